import PyProof.Rows.All
import Wide.All
import OpenK.AllK
import Wide.FinOn
import KE.KStateDown
import Lean
import KE.KNest
import KE.KNestM
import HandS.Base
import HandS.Call
import HandS.Words
import HandS.Defaults
import HandS.Property
import HandS.HeadHook1
import HandS.HeadHook2
import HandS.HeadHook4
import HandS.Head0
import HandS.Head1
import HandS.Head2
import HandS.HeadWalk
import HandS.ForMost
import HandS.Walk
import HandS.Lambda
import HandS.Nested
import HandS.More
import HandS.Star
import HandS.DictComp
import HandS.Conv
import HandS.TupAny
import HandS.Deep
import HandS.IsInst
import HandS.ListItems
import HandS.SetKeys
import HandS.Flow
import HandS.Style
import HandS.SetFor
import HandS.Strs
import HandS.SetBool
import HandS.Zip
import PyProof.TupleOfGen
import HandS.MapObj
import HandS.SortRule
import HandS.DictTup
import HandS.Zip0
import HandS.Iter
import HandS.NoneIn
import PyProof.CollectIter
import PyProof.ListRange
import HandS.NestedK
import PySem.Challenge.RW_sworntypes_k76_whole_needless_ones_one_b
set_option Elab.async false
set_option linter.all false
set_option maxRecDepth 100000
set_option maxHeartbeats 2000000
/-! What the head tells, by addresses: pictures of dicts (keys and values), functions as the text has them, checks. -/
namespace Sw
open PySem PySem.Spec PyProof.Rows L2

def keyS (e : DictEntry) : Option Str := match e.key with
  | .str x _ => some x
  | _ => none
abbrev Img := List (Option Str × Option V)
/-- the dict at a: its keys, its values -/
def dimg (K : PySem.W.Frag) (a : Addr) : Option Img := match K.lookup a with
  | some ⟨_, _, .dict es _, _⟩ => some (es.toList.map fun e => (keyS e, absV e.val))
  | _ => none
theorem abs_rel {u : Value} {v : V} (h : absV u = some v) : RelV v u := by
  cases u with
  | none => cases h; rfl
  | bool b => cases h; rfl
  | int i t => cases h; exact ⟨t, rfl⟩
  | str x t => cases h; exact ⟨t, rfl⟩
  | bytes x t => cases h; exact ⟨t, rfl⟩
  | float x t => cases h; exact ⟨t, rfl⟩
  | ref a => cases h; rfl
  | type n => cases h; rfl
  | _ => cases h
theorem isStr_key {e : DictEntry} {x : Str} : e.key.isStr x = decide (keyS e = some x) := by
  unfold keyS Value.isStr
  cases e.key with
  | str y t =>
    by_cases q : y = x
    · subst q; simp
    · simp [q]
  | _ => simp
theorem find_img {x : Str} {v : V} : ∀ {es : List DictEntry} {i : Nat}, (es.map fun e => (keyS e, absV e.val))[i]? = some (some x, some v) → (∀ j, j < i → ((es.map fun e => (keyS e, absV e.val)).map (·.1))[j]? ≠ some (some x)) →
    ∃ e, es.find? (·.key.isStr x) = some e ∧ RelV v e.val
  | [], i, h, _ => by simp at h
  | e :: es, 0, h, _ => by
    simp only [List.map_cons, List.getElem?_cons_zero, Option.some.injEq, Prod.mk.injEq] at h
    refine ⟨e, ?_, abs_rel h.2⟩
    rw [List.find?_cons, isStr_key, h.1]
    simp
  | e :: es, i + 1, h, hn => by
    have h0 : keyS e ≠ some x := fun q => hn 0 (Nat.succ_pos i) (by simp [q])
    obtain ⟨e', h1, h2⟩ := find_img (es := es) (i := i) (by simpa using h) (fun j hj q => hn (j + 1) (by omega) (by simpa using q))
    refine ⟨e', ?_, h2⟩
    rw [List.find?_cons, isStr_key, decide_eq_false h0]
    exact h1
/-- the first i keys are not x -/
def noKey (im : Img) (i : Nat) (x : Str) : Bool := (im.take i).all fun p => !decide (p.1 = some x)
theorem noKey_ok {im : Img} {i : Nat} {x : Str} (h : noKey im i x = true) : ∀ j, j < i → (im.map (·.1))[j]? ≠ some (some x) := fun j hj q => by
  rw [List.getElem?_map] at q
  cases e : im[j]? with
  | none => rw [e] at q; cases q
  | some p =>
    rw [e] at q
    have hm : p ∈ im.take i := List.mem_of_getElem? (i := j) (by rw [List.getElem?_take_of_lt hj]; exact e)
    have := List.all_eq_true.mp h p hm
    have q' : p.1 = some x := Option.some.inj q
    rw [q'] at this
    simp at this
theorem nsIn_img {K : PySem.W.Frag} {a : Addr} {im : Img} (h : dimg K a = some im) (i : Nat) {x : Str} {v : V} (hi : im[i]? = some (some x, some v)) (hn : noKey im i x = true) : ∃ u, PySem.W.nsIn K a x = some (some u) ∧ RelV v u := by
  unfold dimg at h
  unfold PySem.W.nsIn
  cases q : K.lookup a with
  | none => rw [q] at h; cases h
  | some o =>
    obtain ⟨oc, od, dt, osl⟩ := o
    rw [q] at h
    cases dt with
    | dict es n =>
      have h2 : (es.toList.map fun e => (keyS e, absV e.val)) = im := Option.some.inj h
      subst h2
      obtain ⟨e, h3, h4⟩ := find_img hi (noKey_ok hn)
      exact ⟨e.val, by dsimp only; rw [h3], h4⟩
    | _ => cases h
theorem nsIn_out {K : PySem.W.Frag} {a : Addr} {im : Img} (h : dimg K a = some im) {x : Str} (hn : noKey im im.length x = true) (hs : (im.all fun p => p.1.isSome) = true) : PySem.W.nsIn K a x = some none := by
  unfold dimg at h
  unfold PySem.W.nsIn
  cases q : K.lookup a with
  | none => rw [q] at h; cases h
  | some o =>
    obtain ⟨oc, od, dt, osl⟩ := o
    rw [q] at h
    cases dt with
    | dict es n =>
      have h2 : (es.toList.map fun e => (keyS e, absV e.val)) = im := Option.some.inj h
      subst h2
      have hnk := noKey_ok hn
      have h3 : es.toList.find? (·.key.isStr x) = none := by
        rw [List.find?_eq_none]
        intro e he
        rw [isStr_key]
        obtain ⟨j, hj, ej⟩ := List.mem_iff_getElem.mp he
        intro z
        have z' := of_decide_eq_true z
        refine hnk j (by simpa using hj) ?_
        rw [List.getElem?_map, List.getElem?_map, List.getElem?_eq_getElem hj, ej]
        exact congrArg some z'
      have h4 : es.toList.any (·.refKey) = false := by
        rw [List.any_eq_false]
        intro e he z
        have := List.all_eq_true.mp hs (keyS e, absV e.val) (List.mem_map.mpr ⟨e, he, rfl⟩)
        unfold DictEntry.refKey at z
        unfold keyS at this
        cases hk : e.key with
        | ref b => rw [hk] at this; cases this
        | _ => rw [hk] at z; cases z
      dsimp only
      rw [h3, h4]
      rfl
    | _ => cases h
/-! ### functions -/
structure FnI where
  f : Addr
  name : Str
  qual : Str
  params : Arguments
  body : List Stmt
  scope : Scope
  kws : List (Str × V)
def FnI.val (d : FnI) : He.FnW := some (d.name, d.qual, d.params, .stmts d.body, d.scope, mainGlobals, [], builtinsNs)
def fnAt (K : PySem.W.Frag) (f : Addr) : He.FnW := match K.lookup f with
  | some ⟨_, _, .func fd, _⟩ => some (fd.name, fd.qualname, fd.params, fd.body, fd.scope, fd.globals, fd.closure, fd.builtins)
  | _ => none
def FnI.ok (K : PySem.W.Frag) (d : FnI) : Bool := PySem.W.keepIn K (.ref d.f) && (match K.lookup d.f with
  | some ⟨_, _, .func fd, _⟩ => PySem.W.codeIn K fd.code d.qual && (He.dflB K fd.defaults [] && He.kwdB K fd.kwdefaults d.kws)
  | _ => false)
theorem fn_says {K : PySem.W.Frag} {d : FnI} (e : fnAt K d.f = d.val) (c : d.ok K = true) : ∃ fd, FunD K d.name d.qual d.params d.body d.scope [] d.kws d.f fd := by
  obtain ⟨kp, c2⟩ := He.ba c
  unfold fnAt at e
  cases q : K.lookup d.f with
  | none => rw [q] at c2; cases c2
  | some o =>
    obtain ⟨oc, od, dt, osl⟩ := o
    rw [q] at c2 e
    cases dt with
    | func fd =>
      obtain ⟨n1, n2, n3, n4, n5, n6, n7, n8, n9, n10, n11, n12, n13, n14, n15⟩ := fd
      have e2 : (some (n1, n2, n3, n4, n5, n6, n7, n15) : He.FnW) = some (d.name, d.qual, d.params, .stmts d.body, d.scope, mainGlobals, [], builtinsNs) := e
      simp only [Option.some.injEq, Prod.mk.injEq] at e2
      obtain ⟨h1, h2, h3, h4, h5, h6, h7, h8⟩ := e2
      subst h1 h2 h3 h4 h5 h6 h7 h8
      have c3 : (PySem.W.codeIn K n13 d.qual && (He.dflB K n8 [] && He.kwdB K n9 d.kws)) = true := c2
      obtain ⟨k1, k2⟩ := He.ba c3
      obtain ⟨k3, k4⟩ := He.ba k2
      exact ⟨_, ⟨oc, od, n8, n9, n10, n11, n12, n13, n14, osl, rfl, q, k1, He.dflB_ok k3, He.kwdB_ok k4⟩, kp⟩
    | _ => cases c2
/-! ### classes -/
def clsB (K : PySem.W.Frag) (C : Addr) : Bool := PySem.W.plainGet K C Str.empty && (PySem.W.hasDictIn K C && (PySem.W.plainOver K C && He.eqO (PySem.W.findIn K (.ref C) "__setattr__") (some (some (.builtin "object.__setattr__")))))
def mkB (K : PySem.W.Frag) (C f : Addr) : Bool := PySem.W.makesIn K C && (He.eqO (PySem.W.findIn K (.ref C) "__init__") (some (some (.ref f))) && (PySem.W.isFn K (.ref f) && PySem.W.keepIn K (.ref C)))
def mtB (K : PySem.W.Frag) (C : Addr) (m : Str) (f : Addr) : Bool := He.eqO (PySem.W.findIn K (.ref C) m) (some (some (.ref f))) && (PySem.W.isFn K (.ref f) && PySem.W.keepIn K (.ref f))
def noB (K : PySem.W.Frag) (C : Addr) (x : Str) : Bool := He.eqO (PySem.W.findIn K (.ref C) x) (some none)
def prB (K : PySem.W.Frag) (C : Addr) (x : Str) (p g : Addr) : Bool := He.eqO (PySem.W.findIn K (.ref C) x) (some (some (.ref p))) && (He.eqO (PySem.W.specialIn K (.ref p) "__get__") (some (some (.builtin "property.__get__"))) &&
  (decide (PySem.W.takesIn K (.ref p) = some true) && (match PySem.W.recIn K p "property" with
    | some (.ref g' :: _) => decide (g' = g)
    | _ => false)))
theorem clsB_ok {K : PySem.W.Frag} {C : Addr} (h : clsB K C = true) : Cls K C := by
  obtain ⟨c1, c⟩ := He.ba h
  obtain ⟨c2, c⟩ := He.ba c
  obtain ⟨c3, c4⟩ := He.ba c
  exact ⟨c1, c2, c3, He.eqO_ok c4⟩
theorem mkB_ok {K : PySem.W.Frag} {C f : Addr} (h : mkB K C f = true) : Mk K C f := by
  obtain ⟨c1, c⟩ := He.ba h
  obtain ⟨c2, c⟩ := He.ba c
  obtain ⟨c3, c4⟩ := He.ba c
  exact ⟨c1, He.eqO_ok c2, c3, c4⟩
theorem mtB_ok {K : PySem.W.Frag} {C f : Addr} {m : Str} (h : mtB K C m f = true) : Meth K C m f := by
  obtain ⟨c1, c⟩ := He.ba h
  obtain ⟨c2, c3⟩ := He.ba c
  exact ⟨He.eqO_ok c1, c2, c3⟩
theorem noB_ok {K : PySem.W.Frag} {C : Addr} {x : Str} (h : noB K C x = true) : NoAttr K C x := He.eqO_ok h
theorem prB_ok {K : PySem.W.Frag} {C p g : Addr} {x : Str} (h : prB K C x p g = true) : PropOf K C x p g := by
  obtain ⟨c1, c⟩ := He.ba h
  obtain ⟨c2, c⟩ := He.ba c
  obtain ⟨c3, c4⟩ := He.ba c
  refine ⟨He.eqO_ok c1, He.eqO_ok c2, of_decide_eq_true c3, ?_⟩
  split at c4
  · rename_i g' rest e
    rw [← of_decide_eq_true c4]
    exact ⟨rest, e⟩
  · cases c4
/-- a tuple of the top -/
def tupA (K : PySem.W.Frag) (a : Addr) (vs : List V) : Bool := match K.lookup a with
  | some ⟨.type c, _, .seq its _, _⟩ => decide (c = "tuple") && (decide (its.size ≤ sizeLine) && He.relAll vs its.toList)
  | _ => false
theorem tupA_ok {K : PySem.W.Frag} {a : Addr} {vs : List V} (h : tupA K a vs = true) (H : Hp) : SqT K H a vs := by
  unfold tupA at h
  split at h
  · rename_i c od its n sl q
    obtain ⟨h1, h2⟩ := He.ba h
    obtain ⟨h3, h4⟩ := He.ba h2
    exact .inr ⟨_, its, n, q, congrArg Value.type (of_decide_eq_true h1), rfl, of_decide_eq_true h3, He.relAll_ok h4⟩
  · cases h
end Sw
set_option linter.all false
set_option maxRecDepth 100000
set_option maxHeartbeats 0
/-! The defs of the text by their places and addresses; what the head tells. Printed by gen_top.py. -/
namespace Sw
open PySem L2
def top (i : Nat) : Stmt := PySem.Challenge.pw_sworntypes_k76_whole_needless_ones_one_b.main.body.getD i (.Pass ⟨0, 0, 0, 0⟩)
abbrev s_roads_from : Stmt := top 15
def d_roads_from : FnI := ⟨258, "roads_from", "roads_from", defArgs s_roads_from, defBody s_roads_from, defScope s_roads_from, []⟩
abbrev s_is_name : Stmt := top 19
def d_is_name : FnI := ⟨263, "is_name", "is_name", defArgs s_is_name, defBody s_is_name, defScope s_is_name, []⟩
abbrev s_is_clause : Stmt := top 21
def d_is_clause : FnI := ⟨268, "is_clause", "is_clause", defArgs s_is_clause, defBody s_is_clause, defScope s_is_clause, []⟩
abbrev s_hook_fault : Stmt := top 22
def d_hook_fault : FnI := ⟨275, "hook_fault", "hook_fault", defArgs s_hook_fault, defBody s_hook_fault, defScope s_hook_fault, []⟩
abbrev s_hook_answer : Stmt := top 23
def d_hook_answer : FnI := ⟨280, "hook_answer", "hook_answer", defArgs s_hook_answer, defBody s_hook_answer, defScope s_hook_answer, []⟩
abbrev s_Entry_init : Stmt := inClass (top 29) 0
def d_Entry_init : FnI := ⟨295, "__init__", "Entry.__init__", defArgs s_Entry_init, defBody s_Entry_init, defScope s_Entry_init, []⟩
abbrev s_is_mark : Stmt := top 30
def d_is_mark : FnI := ⟨330, "is_mark", "is_mark", defArgs s_is_mark, defBody s_is_mark, defScope s_is_mark, []⟩
abbrev s_look_marks : Stmt := top 31
def d_look_marks : FnI := ⟨337, "look_marks", "look_marks", defArgs s_look_marks, defBody s_look_marks, defScope s_look_marks, []⟩
abbrev s_is_sworn : Stmt := top 32
def d_is_sworn : FnI := ⟨342, "is_sworn", "is_sworn", defArgs s_is_sworn, defBody s_is_sworn, defScope s_is_sworn, []⟩
abbrev s_hook_for : Stmt := top 37
def d_hook_for : FnI := ⟨373, "hook_for", "hook_for", defArgs s_hook_for, defBody s_hook_for, defScope s_hook_for, []⟩
abbrev s_answer_by_hook : Stmt := top 38
def d_answer_by_hook : FnI := ⟨380, "answer_by_hook", "answer_by_hook", defArgs s_answer_by_hook, defBody s_answer_by_hook, defScope s_answer_by_hook, []⟩
abbrev s_subclasses : Stmt := top 39
def d_subclasses : FnI := ⟨385, "subclasses", "subclasses", defArgs s_subclasses, defBody s_subclasses, defScope s_subclasses, []⟩
abbrev s_methods_in : Stmt := top 41
def d_methods_in : FnI := ⟨390, "methods_in", "methods_in", defArgs s_methods_in, defBody s_methods_in, defScope s_methods_in, []⟩
abbrev s_patterns_in : Stmt := top 46
def d_patterns_in : FnI := ⟨395, "patterns_in", "patterns_in", defArgs s_patterns_in, defBody s_patterns_in, defScope s_patterns_in, []⟩
abbrev s_held_by : Stmt := top 47
def d_held_by : FnI := ⟨400, "held_by", "held_by", defArgs s_held_by, defBody s_held_by, defScope s_held_by, []⟩
abbrev s_declines : Stmt := top 48
def d_declines : FnI := ⟨407, "declines", "declines", defArgs s_declines, defBody s_declines, defScope s_declines, []⟩
abbrev s_next_in : Stmt := top 49
def d_next_in : FnI := ⟨412, "next_in", "next_in", defArgs s_next_in, defBody s_next_in, defScope s_next_in, []⟩
abbrev s_led_to : Stmt := top 50
def d_led_to : FnI := ⟨419, "led_to", "led_to", defArgs s_led_to, defBody s_led_to, defScope s_led_to, []⟩
abbrev s_is_reached : Stmt := top 51
def d_is_reached : FnI := ⟨424, "is_reached", "is_reached", defArgs s_is_reached, defBody s_is_reached, defScope s_is_reached, []⟩
abbrev s_outcome_in : Stmt := top 52
def d_outcome_in : FnI := ⟨429, "outcome_in", "outcome_in", defArgs s_outcome_in, defBody s_outcome_in, defScope s_outcome_in, []⟩
abbrev s_has_road : Stmt := top 53
def d_has_road : FnI := ⟨436, "has_road", "has_road", defArgs s_has_road, defBody s_has_road, defScope s_has_road, []⟩
abbrev s_state_of : Stmt := top 54
def d_state_of : FnI := ⟨441, "state_of", "state_of", defArgs s_state_of, defBody s_state_of, defScope s_state_of, []⟩
abbrev s_is_needless_in : Stmt := top 55
def d_is_needless_in : FnI := ⟨448, "is_needless_in", "is_needless_in", defArgs s_is_needless_in, defBody s_is_needless_in, defScope s_is_needless_in, []⟩
abbrev s_needless : Stmt := top 56
def d_needless : FnI := ⟨453, "needless", "needless", defArgs s_needless, defBody s_needless, defScope s_needless, []⟩
abbrev s_kernel : Stmt := top 57
def d_kernel : FnI := ⟨458, "kernel", "kernel", defArgs s_kernel, defBody s_kernel, defScope s_kernel, []⟩
abbrev s_look_same : Stmt := top 58
def d_look_same : FnI := ⟨465, "look_same", "look_same", defArgs s_look_same, defBody s_look_same, defScope s_look_same, []⟩
abbrev s_first_difference : Stmt := top 59
def d_first_difference : FnI := ⟨470, "first_difference", "first_difference", defArgs s_first_difference, defBody s_first_difference, defScope s_first_difference, []⟩
abbrev s_alike : Stmt := top 60
def d_alike : FnI := ⟨477, "alike", "alike", defArgs s_alike, defBody s_alike, defScope s_alike, []⟩
abbrev s_Cache_init : Stmt := inClass (top 62) 0
def d_Cache_init : FnI := ⟨491, "__init__", "Cache.__init__", defArgs s_Cache_init, defBody s_Cache_init, defScope s_Cache_init, []⟩
abbrev s_Cache_refresh : Stmt := inClass (top 62) 6
def d_Cache_refresh : FnI := ⟨527, "refresh", "Cache.refresh", defArgs s_Cache_refresh, defBody s_Cache_refresh, defScope s_Cache_refresh, []⟩
abbrev s_can_be_first : Stmt := top 64
def d_can_be_first : FnI := ⟨539, "can_be_first", "can_be_first", defArgs s_can_be_first, defBody s_can_be_first, defScope s_can_be_first, []⟩
abbrev s_merged : Stmt := top 65
def d_merged : FnI := ⟨544, "merged", "merged", defArgs s_merged, defBody s_merged, defScope s_merged, []⟩
abbrev s_look_bases : Stmt := top 67
def d_look_bases : FnI := ⟨551, "look_bases", "look_bases", defArgs s_look_bases, defBody s_look_bases, defScope s_look_bases, []⟩
abbrev s_look_hook : Stmt := top 68
def d_look_hook : FnI := ⟨558, "look_hook", "look_hook", defArgs s_look_hook, defBody s_look_hook, defScope s_look_hook, []⟩
abbrev s_new_entry : Stmt := top 69
def d_new_entry : FnI := ⟨563, "new_entry", "new_entry", defArgs s_new_entry, defBody s_new_entry, defScope s_new_entry, []⟩
abbrev s_Table_init : Stmt := inClass (top 71) 0
def d_Table_init : FnI := ⟨577, "__init__", "Table.__init__", defArgs s_Table_init, defBody s_Table_init, defScope s_Table_init, []⟩
abbrev s_Table_copied : Stmt := inClass (top 71) 1
def d_Table_copied : FnI := ⟨582, "copied", "Table.copied", defArgs s_Table_copied, defBody s_Table_copied, defScope s_Table_copied, []⟩
abbrev s_Table_has : Stmt := inClass (top 71) 2
def d_Table_has : FnI := ⟨589, "has", "Table.has", defArgs s_Table_has, defBody s_Table_has, defScope s_Table_has, []⟩
abbrev s_Table_all_names : Stmt := inClass (top 71) 3
def d_Table_all_names : FnI := ⟨596, "all_names", "Table.all_names", defArgs s_Table_all_names, defBody s_Table_all_names, defScope s_Table_all_names, []⟩
abbrev s_Table_add_class : Stmt := inClass (top 71) 4
def d_Table_add_class : FnI := ⟨603, "add_class", "Table.add_class", defArgs s_Table_add_class, defBody s_Table_add_class, defScope s_Table_add_class, []⟩
abbrev s_Table_add_registration : Stmt := inClass (top 71) 7
def d_Table_add_registration : FnI := ⟨624, "add_registration", "Table.add_registration", defArgs s_Table_add_registration, defBody s_Table_add_registration, defScope s_Table_add_registration, []⟩
abbrev s_Table_remove_registration : Stmt := inClass (top 71) 8
def d_Table_remove_registration : FnI := ⟨631, "remove_registration", "Table.remove_registration", defArgs s_Table_remove_registration, defBody s_Table_remove_registration, defScope s_Table_remove_registration, []⟩
abbrev s_Table_registrations : Stmt := inClass (top 71) 9
def d_Table_registrations : FnI := ⟨636, "registrations", "Table.registrations", defArgs s_Table_registrations, defBody s_Table_registrations, defScope s_Table_registrations, []⟩
abbrev s_Table_is_above : Stmt := inClass (top 71) 10
def d_Table_is_above : FnI := ⟨643, "is_above", "Table.is_above", defArgs s_Table_is_above, defBody s_Table_is_above, defScope s_Table_is_above, []⟩
abbrev s_Table_sworn : Stmt := inClass (top 71) 11
def d_Table_sworn : FnI := ⟨650, "sworn", "Table.sworn", defArgs s_Table_sworn, defBody s_Table_sworn, defScope s_Table_sworn, []⟩
abbrev s_Table_below : Stmt := inClass (top 71) 12
def d_Table_below : FnI := ⟨657, "below", "Table.below", defArgs s_Table_below, defBody s_Table_below, defScope s_Table_below, []⟩
abbrev s_Table_next_of : Stmt := inClass (top 71) 13
def d_Table_next_of : FnI := ⟨662, "next_of", "Table.next_of", defArgs s_Table_next_of, defBody s_Table_next_of, defScope s_Table_next_of, []⟩
abbrev s_Table_answer_for : Stmt := inClass (top 71) 15
def d_Table_answer_for : FnI := ⟨676, "answer_for", "Table.answer_for", defArgs s_Table_answer_for, defBody s_Table_answer_for, defScope s_Table_answer_for, []⟩
abbrev s_Table_shortest_road : Stmt := inClass (top 71) 19
def d_Table_shortest_road : FnI := ⟨698, "shortest_road", "Table.shortest_road", defArgs s_Table_shortest_road, defBody s_Table_shortest_road, defScope s_Table_shortest_road, []⟩
abbrev s_Table_ring_by : Stmt := inClass (top 71) 20
def d_Table_ring_by : FnI := ⟨705, "ring_by", "Table.ring_by", defArgs s_Table_ring_by, defBody s_Table_ring_by, defScope s_Table_ring_by, []⟩
abbrev s_World_init : Stmt := inClass (top 74) 0
def d_World_init : FnI := ⟨777, "__init__", "World.__init__", defArgs s_World_init, defBody s_World_init, defScope s_World_init, []⟩
abbrev s_World_class_picture : Stmt := inClass (top 74) 6
def d_World_class_picture : FnI := ⟨817, "class_picture", "World.class_picture", defArgs s_World_class_picture, defBody s_World_class_picture, defScope s_World_class_picture, []⟩
abbrev s_World_names : Stmt := inClass (top 74) 7
def d_World_names : FnI := ⟨824, "names", "World.names", defArgs s_World_names, defBody s_World_names, defScope s_World_names, []⟩
abbrev s_World_look : Stmt := inClass (top 74) 8
def d_World_look : FnI := ⟨832, "look", "World.look", defArgs s_World_look, defBody s_World_look, defScope s_World_look, []⟩
abbrev s_World_refresh : Stmt := inClass (top 74) 9
def d_World_refresh : FnI := ⟨839, "refresh", "World.refresh", defArgs s_World_refresh, defBody s_World_refresh, defScope s_World_refresh, []⟩
abbrev s_World_make : Stmt := inClass (top 74) 11
def d_World_make : FnI := ⟨855, "make", "World.make", defArgs s_World_make, defBody s_World_make, defScope s_World_make, [("sworn", .bl false), ("hook", .non), ("passed", .bl false)]⟩
abbrev s_World_look_registration : Stmt := inClass (top 74) 14
def d_World_look_registration : FnI := ⟨876, "look_registration", "World.look_registration", defArgs s_World_look_registration, defBody s_World_look_registration, defScope s_World_look_registration, []⟩
abbrev s_World_admit : Stmt := inClass (top 74) 15
def d_World_admit : FnI := ⟨883, "admit", "World.admit", defArgs s_World_admit, defBody s_World_admit, defScope s_World_admit, []⟩
abbrev s_Lbag : Stmt := top 76
def d_Lbag : FnI := ⟨1072, "_law_bag", "_law_bag", defArgs s_Lbag, defBody s_Lbag, defScope s_Lbag, []⟩
abbrev s_Ltake : Stmt := top 77
def d_Ltake : FnI := ⟨1079, "_law_take", "_law_take", defArgs s_Ltake, defBody s_Ltake, defScope s_Ltake, []⟩
abbrev s_Lpick : Stmt := top 78
def d_Lpick : FnI := ⟨1086, "_law_pick", "_law_pick", defArgs s_Lpick, defBody s_Lpick, defScope s_Lpick, []⟩
abbrev s_Lmerge : Stmt := top 79
def d_Lmerge : FnI := ⟨1091, "_law_merge", "_law_merge", defArgs s_Lmerge, defBody s_Lmerge, defScope s_Lmerge, []⟩
abbrev s_Lnew : Stmt := top 80
def d_Lnew : FnI := ⟨1098, "_law_new", "_law_new", defArgs s_Lnew, defBody s_Lnew, defScope s_Lnew, []⟩
abbrev s_Lcopy : Stmt := top 81
def d_Lcopy : FnI := ⟨1103, "_law_copy", "_law_copy", defArgs s_Lcopy, defBody s_Lcopy, defScope s_Lcopy, []⟩
abbrev s_Lsworn : Stmt := top 82
def d_Lsworn : FnI := ⟨1108, "_law_sworn", "_law_sworn", defArgs s_Lsworn, defBody s_Lsworn, defScope s_Lsworn, []⟩
abbrev s_Lnext : Stmt := top 83
def d_Lnext : FnI := ⟨1113, "_law_next", "_law_next", defArgs s_Lnext, defBody s_Lnext, defScope s_Lnext, []⟩
abbrev s_Lled : Stmt := top 84
def d_Lled : FnI := ⟨1118, "_law_led", "_law_led", defArgs s_Lled, defBody s_Lled, defScope s_Lled, []⟩
abbrev s_Lmake : Stmt := top 85
def d_Lmake : FnI := ⟨1123, "_law_make", "_law_make", defArgs s_Lmake, defBody s_Lmake, defScope s_Lmake, []⟩
abbrev s_Lnew_rule : Stmt := top 86
def d_Lnew_rule : FnI := ⟨1128, "_law_new_rule", "_law_new_rule", defArgs s_Lnew_rule, defBody s_Lnew_rule, defScope s_Lnew_rule, []⟩
abbrev s_Lclass : Stmt := top 87
def d_Lclass : FnI := ⟨1135, "_law_class", "_law_class", defArgs s_Lclass, defBody s_Lclass, defScope s_Lclass, []⟩
abbrev s_Ladmits : Stmt := top 88
def d_Ladmits : FnI := ⟨1142, "_law_admits", "_law_admits", defArgs s_Ladmits, defBody s_Ladmits, defScope s_Ladmits, []⟩
abbrev s_Ladmit : Stmt := top 89
def d_Ladmit : FnI := ⟨1149, "_law_admit", "_law_admit", defArgs s_Ladmit, defBody s_Ladmit, defScope s_Ladmit, []⟩
abbrev s_Lsome_admitted : Stmt := top 90
def d_Lsome_admitted : FnI := ⟨1156, "_law_some_admitted", "_law_some_admitted", defArgs s_Lsome_admitted, defBody s_Lsome_admitted, defScope s_Lsome_admitted, []⟩
abbrev s_Ldrawn : Stmt := top 91
def d_Ldrawn : FnI := ⟨1163, "_law_drawn", "_law_drawn", defArgs s_Ldrawn, defBody s_Ldrawn, defScope s_Ldrawn, []⟩
abbrev s_Lmade_in : Stmt := top 92
def d_Lmade_in : FnI := ⟨1170, "_law_made_in", "_law_made_in", defArgs s_Lmade_in, defBody s_Lmade_in, defScope s_Lmade_in, []⟩
abbrev s_Lmade : Stmt := top 93
def d_Lmade : FnI := ⟨1177, "_law_made", "_law_made", defArgs s_Lmade, defBody s_Lmade, defScope s_Lmade, []⟩
abbrev s_Llisted : Stmt := top 94
def d_Llisted : FnI := ⟨1182, "_law_listed", "_law_listed", defArgs s_Llisted, defBody s_Llisted, defScope s_Llisted, []⟩
abbrev s_Lwithout : Stmt := top 95
def d_Lwithout : FnI := ⟨1189, "_law_without", "_law_without", defArgs s_Lwithout, defBody s_Lwithout, defScope s_Lwithout, []⟩
abbrev s_Lend : Stmt := top 96
def d_Lend : FnI := ⟨1196, "_law_end", "_law_end", defArgs s_Lend, defBody s_Lend, defScope s_Lend, []⟩
abbrev s_law : Stmt := top 97
def d_law : FnI := ⟨1203, "law", "law", defArgs s_law, defBody s_law, defScope s_law, []⟩
def fnL : List FnI := [d_roads_from, d_is_name, d_is_clause, d_hook_fault, d_hook_answer, d_Entry_init, d_is_mark, d_look_marks, d_is_sworn, d_hook_for, d_answer_by_hook, d_subclasses, d_methods_in, d_patterns_in, d_held_by, d_declines, d_next_in, d_led_to, d_is_reached, d_outcome_in, d_has_road, d_state_of, d_is_needless_in, d_needless, d_kernel, d_look_same, d_first_difference, d_alike, d_Cache_init, d_Cache_refresh, d_can_be_first, d_merged, d_look_bases, d_look_hook, d_new_entry, d_Table_init, d_Table_copied, d_Table_has, d_Table_all_names, d_Table_add_class, d_Table_add_registration, d_Table_remove_registration, d_Table_registrations, d_Table_is_above, d_Table_sworn, d_Table_below, d_Table_next_of, d_Table_answer_for, d_Table_shortest_road, d_Table_ring_by, d_World_init, d_World_class_picture, d_World_names, d_World_look, d_World_refresh, d_World_make, d_World_look_registration, d_World_admit, d_Lbag, d_Ltake, d_Lpick, d_Lmerge, d_Lnew, d_Lcopy, d_Lsworn, d_Lnext, d_Lled, d_Lmake, d_Lnew_rule, d_Lclass, d_Ladmits, d_Ladmit, d_Lsome_admitted, d_Ldrawn, d_Lmade_in, d_Lmade, d_Llisted, d_Lwithout, d_Lend, d_law]
def ad0 : List Addr := [3, 258, 257, 263, 262, 268, 267, 275, 274, 280, 279, 295, 294, 330, 329, 337, 336, 342, 341, 373, 372, 380, 379, 385, 384, 390, 389, 395, 394, 400, 399, 407, 406, 412, 411, 419, 418, 424, 423, 429]
def ad1 : List Addr := [428, 436, 435, 441, 440, 448, 447, 453, 452, 458, 457, 465, 464, 470, 469, 477, 476, 491, 490, 527, 526, 539, 538, 544, 543, 551, 550, 558, 557, 563, 562, 577, 576, 582, 581, 589, 588, 596, 595, 603]
def ad2 : List Addr := [602, 624, 623, 631, 630, 636, 635, 643, 642, 650, 649, 657, 656, 662, 661, 676, 675, 698, 697, 705, 704, 777, 776, 817, 816, 824, 823, 832, 831, 839, 838, 855, 854, 876, 875, 883, 882, 1072, 1071, 1079]
def ad3 : List Addr := [1078, 1086, 1085, 1091, 1090, 1098, 1097, 1103, 1102, 1108, 1107, 1113, 1112, 1118, 1117, 1123, 1122, 1128, 1127, 1135, 1134, 1142, 1141, 1149, 1148, 1156, 1155, 1163, 1162, 1170, 1169, 1177, 1176, 1182, 1181, 1189, 1188, 1196, 1195, 1203]
def ad4 : List Addr := [1202, 848, 281, 825, 319, 318, 530, 529, 708, 707, 1061, 1060]
def ads : List Addr := ad0 ++ ad1 ++ ad2 ++ ad3 ++ ad4
def gi0 : Img := [(some "__name__", some (.str "law_sworntypes_k76_whole_needless_ones_one_b")), (some "__doc__", some .non), (some "__package__", some .non), (some "__loader__", none), (some "__spec__", some .non), (some "__annotations__", some (.ref 6)), (some "__builtins__", some (.ref 4)), (some "__file__", some (.str "/claim/cut.py")), (some "__cached__", some .non), (some "_wall", some (.ref 21)), (some "WorldError", some (.ref 31)), (some "BadName", some (.ref 51)), (some "BadMark", some (.ref 70)), (some "BadHook", some (.ref 89)), (some "UnknownClass", some (.ref 108)), (some "NoOrder", some (.ref 128)), (some "Taken", some (.ref 148)), (some "Ring", some (.ref 168)), (some "Repeated", some (.ref 188)), (some "Different", some (.ref 208)), (some "NotSworn", some (.ref 228)), (some "Abstract", some (.ref 248)), (some "roads_from", some (.ref 258)), (some "MOST_LETTERS", some (.int 8)), (some "LETTERS", some (.str "abcdefghijklmnopqrstuvwxyz")), (some "is_name", some (.ref 263)), (some "is_clause", some (.ref 268)), (some "hook_fault", some (.ref 275)), (some "hook_answer", some (.ref 280)), (some "PLAIN", some (.str "plain"))]
def gi1 : Img := [(some "ABSTRACT", some (.str "abstract")), (some "BLOCKED", some (.str "blocked")), (some "MARKS", some (.ref 281)), (some "Entry", some (.ref 319)), (some "is_mark", some (.ref 330)), (some "look_marks", some (.ref 337)), (some "is_sworn", some (.ref 342)), (some "found_mark", some (.ref 349)), (some "all_found", some (.ref 356)), (some "methods_had", some (.ref 361)), (some "methods_left", some (.ref 366)), (some "hook_for", some (.ref 373)), (some "answer_by_hook", some (.ref 380)), (some "subclasses", some (.ref 385)), (some "methods_in", some (.ref 390)), (some "WON", some (.str "won")), (some "REACHED", some (.str "reached")), (some "NEITHER", some (.str "neither")), (some "patterns_in", some (.ref 395)), (some "held_by", some (.ref 400)), (some "declines", some (.ref 407)), (some "next_in", some (.ref 412)), (some "led_to", some (.ref 419)), (some "is_reached", some (.ref 424)), (some "outcome_in", some (.ref 429)), (some "has_road", some (.ref 436)), (some "state_of", some (.ref 441)), (some "is_needless_in", some (.ref 448)), (some "needless", some (.ref 453)), (some "kernel", some (.ref 458))]
def gi2 : Img := [(some "look_same", some (.ref 465)), (some "first_difference", some (.ref 470)), (some "alike", some (.ref 477)), (some "Cache", some (.ref 530)), (some "can_be_first", some (.ref 539)), (some "merged", some (.ref 544)), (some "look_bases", some (.ref 551)), (some "look_hook", some (.ref 558)), (some "new_entry", some (.ref 563)), (some "Table", some (.ref 708)), (some "Thing", some (.ref 759)), (some "World", some (.ref 1061)), (some "_law_bag", some (.ref 1072)), (some "_law_take", some (.ref 1079)), (some "_law_pick", some (.ref 1086)), (some "_law_merge", some (.ref 1091)), (some "_law_new", some (.ref 1098)), (some "_law_copy", some (.ref 1103)), (some "_law_sworn", some (.ref 1108)), (some "_law_next", some (.ref 1113)), (some "_law_led", some (.ref 1118)), (some "_law_make", some (.ref 1123)), (some "_law_new_rule", some (.ref 1128)), (some "_law_class", some (.ref 1135)), (some "_law_admits", some (.ref 1142)), (some "_law_admit", some (.ref 1149)), (some "_law_some_admitted", some (.ref 1156)), (some "_law_drawn", some (.ref 1163)), (some "_law_made_in", some (.ref 1170)), (some "_law_made", some (.ref 1177))]
def gi3 : Img := [(some "_law_listed", some (.ref 1182)), (some "_law_without", some (.ref 1189)), (some "_law_end", some (.ref 1196)), (some "law", some (.ref 1203))]
def gimg : Img := gi0 ++ gi1 ++ gi2 ++ gi3
def clL : List Addr := [319, 530, 708, 1061]
def mkL : List (Addr × Addr) := [(319, 295), (530, 491), (708, 577), (1061, 777)]
def noL : List (Addr × PySem.Str) := [(319, "label"), (319, "parents"), (319, "own_sworn"), (319, "given_marks"), (319, "own_hook"), (319, "passed_on"), (319, "line"), (530, "kept"), (708, "records"), (708, "numbers"), (708, "lists"), (708, "made"), (1061, "table"), (1061, "cache"), (1061, "visits"), (1061, "things"), (1061, "choice_lists")]
def mtL : List (Addr × PySem.Str × Addr) := [(530, "refresh", 527), (708, "copied", 582), (708, "has", 589), (708, "all_names", 596), (708, "add_class", 603), (708, "add_registration", 624), (708, "remove_registration", 631), (708, "registrations", 636), (708, "is_above", 643), (708, "sworn", 650), (708, "below", 657), (708, "next_of", 662), (708, "answer_for", 676), (708, "shortest_road", 698), (708, "ring_by", 705), (1061, "class_picture", 817), (1061, "look", 832), (1061, "refresh", 839), (1061, "make", 855), (1061, "look_registration", 876), (1061, "admit", 883)]
def tbL : List (Addr × Addr) := [(418, 414), (435, 431)]
def cdL : List (Addr × Addr) := [(419, 418), (436, 435)]
def lo0 : List PySem.Str := ["_wall", "WorldError", "BadName", "BadMark", "BadHook", "UnknownClass", "NoOrder", "Taken", "Ring", "Repeated", "Different", "NotSworn", "Abstract", "roads_from", "MOST_LETTERS", "LETTERS", "is_name", "is_clause", "hook_fault", "hook_answer", "PLAIN", "ABSTRACT", "BLOCKED", "MARKS", "Entry", "is_mark", "look_marks", "is_sworn", "found_mark", "all_found"]
def lo1 : List PySem.Str := ["methods_had", "methods_left", "hook_for", "answer_by_hook", "subclasses", "methods_in", "WON", "REACHED", "NEITHER", "patterns_in", "held_by", "declines", "next_in", "led_to", "is_reached", "outcome_in", "has_road", "state_of", "is_needless_in", "needless", "kernel", "look_same", "first_difference", "alike", "Cache", "can_be_first", "merged", "look_bases", "look_hook", "new_entry"]
def lo2 : List PySem.Str := ["Table", "Thing", "World", "_law_bag", "_law_take", "_law_pick", "_law_merge", "_law_new", "_law_copy", "_law_sworn", "_law_next", "_law_led", "_law_make", "_law_new_rule", "_law_class", "_law_admits", "_law_admit", "_law_some_admitted", "_law_drawn", "_law_made_in", "_law_made", "_law_listed", "_law_without", "_law_end"]
def loose : List PySem.Str := lo0 ++ lo1 ++ lo2
/-! ### the checks, the hook -/
def tbB (g : Addr → Option Obj) (K : PySem.W.Frag) (p : Addr × Addr) : Bool := PySem.W.codeHdIn K p.1 p.2 && ((K.lookup p.2).isNone && (match g p.2 with
  | some o => He.emptyTab o
  | none => false))
def cdB (K : PySem.W.Frag) (f c : Addr) : Bool := match K.lookup f with
  | some ⟨_, _, .func fd, _⟩ => (match fd.code with
    | .ref c' => decide (c' = c)
    | _ => false)
  | _ => false
theorem cdB_ok {K : PySem.W.Frag} {f c : Addr} {oc : Value} {od : Option Addr} {fd : FuncData} {osl : Array (Option Value)} (h : cdB K f c = true) (q : K.lookup f = some ⟨oc, od, .func fd, osl⟩) : fd.code = .ref c := by
  unfold cdB at h
  rw [q] at h
  dsimp only at h
  split at h
  · rename_i c' e
    rw [e, of_decide_eq_true h]
  · cases h
def chB (K : PySem.W.Frag) : Bool := (fnL.all fun d => d.ok K) && ((clL.all fun C => clsB K C) && ((mkL.all fun p => mkB K p.1 p.2) && ((noL.all fun p => noB K p.1 p.2) && ((mtL.all fun p => mtB K p.1 p.2.1 p.2.2) &&
  (prB K 1061 "names" 825 824 && (tupA K 281 [.str "plain", .str "abstract", .str "blocked"] && cdL.all fun p => cdB K p.1 p.2))))))
abbrev Al : Type := Option Img × List He.FnW × Bool
def obG (g : Addr → Option Obj) : Al := (dimg (He.frG g ads) 3, fnL.map (fun d => fnAt (He.frG g ads) d.f), chB (He.frG g ads) && tbL.all fun p => tbB g (He.frG g ads) p)
structure Says (K : PySem.W.Frag) : Prop where
  img : dimg K 3 = some gimg
  fns : fnL.map (fun d => fnAt K d.f) = fnL.map FnI.val
  ch : chB K = true
structure Tbs (K : PySem.W.Frag) (h : Heap) : Prop where
  hd : ∀ p ∈ tbL, PySem.W.codeHdIn K p.1 p.2 = true
  out : ∀ p ∈ tbL, K.lookup p.2 = none
  empty : ∀ p ∈ tbL, h.get? p.2 = some { cls := .none, data := .fields #[] }
def hk : PySem.W.Hook where
  α := Al
  obs := fun s => obG s.heap.get?
  val := fun _ => (some gimg, fnL.map FnI.val, true)
  says := fun _ h => ∃ K : PySem.W.Frag, K.In h ∧ Says K ∧ Tbs K h
  of := fun _ s e => by
    obtain ⟨e1, e2⟩ := Prod.mk.inj e
    obtain ⟨e2, e3⟩ := Prod.mk.inj e2
    obtain ⟨e3, e4⟩ := He.ba e3
    have q : ∀ p ∈ tbL, _ := fun p hp => He.ba (List.all_eq_true.mp e4 p hp)
    refine ⟨He.frG s.heap.get? ads, He.frG_in, ⟨e1, e2, e3⟩, fun p hp => (q p hp).1, fun p hp => Option.isNone_iff_eq_none.mp (He.ba (q p hp).2).1, fun p hp => ?_⟩
    have z := (He.ba (q p hp).2).2
    split at z
    · rename_i ob w
      rw [w, He.emptyTab_eq z]
    · cases z
  keeps := fun _ _ _ ⟨K, hK, c, t⟩ k => ⟨K, PySem.W.Frag.In.keeps hK k, c, t.hd, t.out, fun p hp => k _ _ (t.empty p hp)⟩
abbrev R : PySem.W.OpenRow := PySem.W.OpenLaw.row PySem.Challenge.rw_sworntypes_k76_whole_needless_ones_one_b
def ob (s : PySem.W.SharedT) : Al := obG (HandSHeadRun.getT s)
theorem ob_eq (s : PySem.W.SharedT) : ob s = hk.obs s.abs := by
  have e : HandSHeadRun.getT s = s.abs.heap.get? := funext (HandSHeadRun.getT_eq s)
  show obG (HandSHeadRun.getT s) = obG s.abs.heap.get?
  rw [e]
end Sw
set_option linter.all false
set_option maxRecDepth 100000
set_option maxHeartbeats 0
/-! The run of the top, by the kernel. -/
namespace Sw
theorem run (w : PySem.World) : HandSHeadRun.RunEq R (PySem.W.view R.prog [97]) hk ob 9000 loose w := by
  intro os
  kernel_rfl
end Sw
set_option linter.all false
set_option maxRecDepth 100000
set_option maxHeartbeats 2000000
/-! The kit of this proof: heaps that grow (code tables may grow too), calls by name, comprehensions. -/
namespace Sw
open PySem PySem.Spec PyProof.Rows L2 LamX

abbrev St := L2.St
/-! ### heaps that grow -/
abbrev TBS : List (Addr × Str) := [((tbL.getD 0 (0, 0)).2, "led_to.<locals>.<lambda>"), ((tbL.getD 1 (0, 0)).2, "has_road.<locals>.<lambda>")]
/-- what may stand in a code table's place, or be a code object -/
def plainO : HO → Bool
  | .tbl _ => false
  | .ext _ => false
  | _ => true
structure Le (H H' : Hp) : Prop where
  ext : ∀ b o, H b = some o → (∀ ps, o ≠ .tbl ps) → H' b = some o
  tab : Tabs TBS H → Tabs TBS H'
theorem Le.refl (H : Hp) : Le H H := ⟨fun _ _ h _ => h, id⟩
theorem Le.trans {H H1 H2 : Hp} (a : Le H H1) (b : Le H1 H2) : Le H H2 := ⟨fun c o h n => b.ext c o (a.ext c o h n) n, fun t => b.tab (a.tab t)⟩
section
variable {K : PySem.W.Frag} {H H' H1 H2 : Hp} {a p q d : Addr} {o o' u : HO} {xs : List V} {kvs : List (Key × V)}
theorem plain_ne (h : plainO o = true) : ∀ ps, o ≠ .tbl ps := fun ps e => by rw [e] at h; cases h
theorem Le.at (e : Le H H') (h : H a = some o) (n : plainO o = true := by rfl) : H' a = some o := e.ext _ _ h (plain_ne n)
theorem Le.code {c : Addr} {q : Str} (e : Le H H') (h : H c = some (CodeO c q)) : H' c = some (CodeO c q) := e.ext _ _ h codeO_ne
theorem Le.lst (e : Le H H') (h : H a = some (.lst xs)) : H' a = some (.lst xs) := e.at h
theorem Le.tup (e : Le H H') (h : H a = some (.tup xs)) : H' a = some (.tup xs) := e.at h
theorem Le.dK (e : Le H H') (h : H a = some (.dK kvs)) : H' a = some (.dK kvs) := e.at h
theorem Le.rd (e : Le H H') (n : plainO u = true) (h : Rd H a u) : Rd H' a u := by
  rcases h with h | ⟨o, h⟩
  · exact .inl (e.at h n)
  · exact .inr ⟨o, e.at h⟩
theorem Le.sl (e : Le H H') (h : SqL K H a xs) : SqL K H' a xs := h.imp (e.rd rfl) id
theorem Le.st (e : Le H H') (h : SqT K H a xs) : SqT K H' a xs := h.imp (e.rd rfl) id
theorem Le.free (e : Le H H') (h : H' a = none) (n : ∀ ps, H a ≠ some (.tbl ps)) : H a = none := by
  cases q : H a with
  | none => rfl
  | some o =>
    rw [e.ext a o q (fun ps z => n ps (by rw [q, z]))] at h
    cases h
theorem Le.new (h : H p = none) : Le H (upd H p o) := by
  have e : ∀ b u, H b = some u → upd H p o b = some u := fun b u q => by rw [upd_ne (ne_of_none q h)]; exact q
  exact ⟨fun b u q _ => e b u q, fun t => t.ext e⟩
/-- behind a table's growth a free place was free -/
theorem Le.mut (e : Le H H') (h : H p = none) (h' : H' p = some o') (n : plainO o' = true) : Le H (upd H' p o) := by
  refine ⟨fun b u q nt => ?_, fun t => ?_⟩
  · rw [upd_ne (ne_of_none q h)]
    exact e.ext b u q nt
  · refine fun x hx => ?_
    obtain ⟨ps, h1, h2, h3⟩ := e.tab t x hx
    have nP : x.1 ≠ p := fun z => by rw [z, h'] at h1; cases h1; cases n
    refine ⟨ps, by rw [upd_ne nP]; exact h1, h2, fun pos cv hc => ?_⟩
    obtain ⟨c, e1, e2⟩ := h3 pos cv hc
    refine ⟨c, e1, ?_⟩
    have nc : c ≠ p := fun z => by
      rw [z, h'] at e2
      have q := Option.some.inj e2
      rw [q] at n
      unfold CodeO at n
      cases n
    rw [upd_ne nc]
    exact e2
/-- no plain thing stood there -/
def Fre (H : Hp) (p : Addr) : Prop := ∀ o, plainO o = true → H p ≠ some o
theorem Fre.of (h : H p = none) : Fre H p := fun o _ q => by rw [h] at q; cases q
theorem Le.fre (e : Le H H') (h : Fre H' p) : Fre H p := fun o n q => h o n (e.at q n)
theorem Le.fr0 (e : Le H H') (h : H' p = none) : Fre H p := e.fre (.of h)
theorem Fre.ne (h : Fre H p) (hq : H q = some o) (n : plainO o = true := by rfl) : q ≠ p := fun z => by subst z; exact h o n hq
theorem Le.mutF (e : Le H H') (h : Fre H p) (h' : H' p = some o') (n : plainO o' = true) : Le H (upd H' p o) := by
  refine ⟨fun b u q nt => ?_, fun t => ?_⟩
  · have hb : b ≠ p := fun z => by
      subst z
      have q2 := e.ext b u q nt
      rw [h'] at q2
      cases q2
      exact h _ n q
    rw [upd_ne hb]
    exact e.ext b u q nt
  · refine fun x hx => ?_
    obtain ⟨ps, h1, h2, h3⟩ := e.tab t x hx
    have nP : x.1 ≠ p := fun z => by rw [z, h'] at h1; cases h1; cases n
    refine ⟨ps, by rw [upd_ne nP]; exact h1, h2, fun pos cv hc => ?_⟩
    obtain ⟨c, e1, e2⟩ := h3 pos cv hc
    refine ⟨c, e1, ?_⟩
    have nc : c ≠ p := fun z => by
      rw [z, h'] at e2
      have q := Option.some.inj e2
      rw [q] at n
      unfold CodeO at n
      cases n
    rw [upd_ne nc]
    exact e2
/-- but for d -/
def LeX (d : Addr) (H H' : Hp) : Prop := ∀ b o, b ≠ d → H b = some o → (∀ ps, o ≠ .tbl ps) → H' b = some o
theorem Le.x (e : Le H H') : LeX d H H' := fun b o _ h n => e.ext b o h n
theorem LeX.trans (a : LeX d H H1) (b : LeX d H1 H2) : LeX d H H2 := fun c o hc h n => b c o hc (a c o hc h n) n
theorem LeX.upd : LeX d H (upd H d o) := fun b o hb h _ => by rw [upd_ne hb]; exact h
theorem LeX.at (e : LeX d H H') (hd : a ≠ d) (h : H a = some o) (n : plainO o = true := by rfl) : H' a = some o := e a o hd h (plain_ne n)

/-! ### a dict locked while it is walked -/
theorem lock_le {od : Obj} (h : H d = some u) (n : plainO u = true) (e : Le (upd H d (.frz od u)) H') : Le H (upd H' d u) := by
  have hd : H' d = some (.frz od u) := e.at upd_same
  refine ⟨fun b o q nt => ?_, fun t => ?_⟩
  · by_cases hb : b = d
    · subst hb
      rw [h] at q
      rw [upd_same, ← q]
    · rw [upd_ne hb]
      exact e.ext b o (by rw [upd_ne hb]; exact q) nt
  · have t1 : Tabs TBS (upd H d (.frz od u)) := fun x hx => by
      obtain ⟨ps, h1, h2, h3⟩ := t x hx
      have nP : x.1 ≠ d := fun z => by rw [z, h] at h1; cases h1; cases n
      refine ⟨ps, by rw [upd_ne nP]; exact h1, h2, fun pos cv hc => ?_⟩
      obtain ⟨c, e1, e2⟩ := h3 pos cv hc
      have nc : c ≠ d := fun z => by
        rw [z, h] at e2
        have q := Option.some.inj e2
        rw [q] at n
        unfold CodeO at n
        cases n
      exact ⟨c, e1, by rw [upd_ne nc]; exact e2⟩
    refine fun x hx => ?_
    obtain ⟨ps, h1, h2, h3⟩ := e.tab t1 x hx
    have nP : x.1 ≠ d := fun z => by rw [z, hd] at h1; cases h1
    refine ⟨ps, by rw [upd_ne nP]; exact h1, h2, fun pos cv hc => ?_⟩
    obtain ⟨c, e1, e2⟩ := h3 pos cv hc
    have nc : c ≠ d := fun z => by
      rw [z, hd] at e2
      have q := Option.some.inj e2
      unfold CodeO at q
      cases q
    exact ⟨c, e1, by rw [upd_ne nc]; exact e2⟩
theorem lock_at {od : Obj} (h : H d = some u) (hb : H a = some o) (n : o ≠ u) : upd H d (.frz od u) a = some o := by
  rw [upd_ne (fun z => n (by rw [z, h] at hb; exact (Option.some.inj hb).symm))]
  exact hb
end
theorem sz5 {n : Nat} (h : n ≤ 100000) : n ≤ sizeLine := Nat.le_trans h (by decide)
theorem sz5' {n : Nat} (h : n < 100000) : n < sizeLine := Nat.lt_of_lt_of_le h (by decide)

/-! ### calls -/
structure Cal (P : Program) (w : World) (K : PySem.W.Frag) (mg : Str → Option Value) (base : Heap) (x : Str) (k : Nat) (ps : List Str) (sp : Sp) : Prop where
  ex : ∃ f fd, FnOk P w K mg base CX0 k f fd ps sp ∧ mg x = some (.ref f) ∧ PySem.W.keepIn K (.ref f) = true ∧ Binds K fd ps []
structure CalM (P : Program) (w : World) (K : PySem.W.Frag) (mg : Str → Option Value) (base : Heap) (C : Addr) (m : Str) (k : Nat) (ps : List Str) (sp : Sp) : Prop where
  ex : ∃ f fd, FnOk P w K mg base CX0 k f fd ps sp ∧ Meth K C m f ∧ Cls K C ∧ Binds K fd ps []
structure CalC (P : Program) (w : World) (K : PySem.W.Frag) (mg : Str → Option Value) (base : Heap) (x : Str) (C : Addr) (k : Nat) (ps : List Str) (sp : Sp) : Prop where
  ex : ∃ f fd, FnOk P w K mg base CX0 k f fd ps sp ∧ Mk K C f ∧ mg x = some (.ref C) ∧ Binds K fd ps []
section
variable {X : Cx} {k : Nat} {C : Addr} {x m : Str} {ps : List Str} {sp : Sp} {p pos apos : Pos} {e o : Expr} {es : List Expr} {ta : TE} {t : TA}
theorem pc (F : Cal X.prog X.w X.K X.mg X.base x k ps sp) (hr : Room k X.A) (hg : Gl X x) (ha : PA X (e :: es) t) (hdb : (x == ("__debug__" : Str)) = false := by decide)
    (he : starEach (e :: es) X.env = (false, eval e X.env) :: starEach es X.env := by rfl) (hpl : (backTo pos (starEach es X.env)).any (·.1) = false := by rfl) :
    PE X (.Call (.Name x p) (e :: es) [] pos) (tCall sp [] E0 t) := by
  obtain ⟨f, fd, F, g, kp, b⟩ := F.ex
  exact pe_call F hr hg g kp b .nil pass0 ha hdb he hpl
theorem pc0 (F : Cal X.prog X.w X.K X.mg X.base x k ps sp) (hr : Room k X.A) (hg : Gl X x) (hdb : (x == ("__debug__" : Str)) = false := by decide) :
    PE X (.Call (.Name x p) [] [] pos) (tCall sp [] E0 tNil) := by
  obtain ⟨f, fd, F, g, kp, b⟩ := F.ex
  exact pe_call0 F hr hg g kp b .nil pass0 hdb
theorem pm {pl : Sem Bool} (F : CalM X.prog X.w X.K X.mg X.base C m k ps sp) (hr : Room k X.A) (he : PE X o ta) (ha : PA X (e :: es) t)
    (hst : starEach (e :: es) X.env = (false, eval e X.env) :: starEach es X.env := by rfl) (hpl : (backTo pos (starEach es X.env)).any (·.1) = false := by rfl)
    (ht : eval (.Call (.Attribute o m apos) (e :: es) [] pos) X.env = (do
      let ov ← eval o X.env
      standAt apos.atName
      let (f, first) ← holding [ov] (getMethod ov m pl)
      callWith pos f first (backTo pos (starEach (e :: es) X.env)) (backToKw pos (keywordEach [] X.env))) := by rfl) :
    PE X (.Call (.Attribute o m apos) (e :: es) [] pos) (tMeth C m sp [] E0 ta t) := by
  obtain ⟨f, fd, F, g, c, b⟩ := F.ex
  exact pe_meth he c g F hr b .nil pass0 ha hst hpl ht
theorem pm0 {pl : Sem Bool} (F : CalM X.prog X.w X.K X.mg X.base C m k ps sp) (hr : Room k X.A) (he : PE X o ta)
    (ht : eval (.Call (.Attribute o m apos) [] [] pos) X.env = (do
      let ov ← eval o X.env
      standAt apos.atName
      let (f, first) ← holding [ov] (getMethod ov m pl)
      callWith pos f first (backTo pos (starEach [] X.env)) (backToKw pos (keywordEach [] X.env))) := by rfl) :
    PE X (.Call (.Attribute o m apos) [] [] pos) (tMeth C m sp [] E0 ta tNil) := by
  obtain ⟨f, fd, F, g, c, b⟩ := F.ex
  exact pe_meth0 he c g F hr b .nil pass0 ht
theorem pn (F : CalC X.prog X.w X.K X.mg X.base x C k ps sp) (hr : Room (k + 1) X.A) (hg : Gl X x) (ha : PA X (e :: es) t) (hdb : (x == ("__debug__" : Str)) = false := by decide)
    (he : starEach (e :: es) X.env = (false, eval e X.env) :: starEach es X.env := by rfl) (hpl : (backTo pos (starEach es X.env)).any (·.1) = false := by rfl) :
    PE X (.Call (.Name x p) (e :: es) [] pos) (tMake C sp [] E0 t) := by
  obtain ⟨f, fd, F, M, g, b⟩ := F.ex
  exact pe_make M F hr hg g b .nil pass0 ha hdb he hpl
theorem pn0 (F : CalC X.prog X.w X.K X.mg X.base x C k ps sp) (hr : Room (k + 1) X.A) (hg : Gl X x) (hdb : (x == ("__debug__" : Str)) = false := by decide) :
    PE X (.Call (.Name x p) [] [] pos) (tMake C sp [] E0 tNil) := by
  obtain ⟨f, fd, F, M, g, b⟩ := F.ex
  exact pe_make0 M F hr hg g b .nil pass0 hdb
end

/-! ### comprehensions of one clause -/
section
variable {J : It} {n : Nat} {G : Hp → Prop} {Y : Nat → Hp → V → Hp → Prop}
/-- what the turns have given: P D i y at each place kept -/
def Got (P : Addr → Nat → V → Hp → Prop) (f : Nat → Bool) (D : Addr) (n : Nat) (ys : List V) (H : Hp) : Prop := Paired (fun i y => P D i y H) ((List.range n).filter f) ys
theorem Paired.snoc {α β : Type} {R : α → β → Prop} {a : α} {b : β} : ∀ {l : List α} {r : List β}, Paired R l r → R a b → Paired R (l ++ [a]) (r ++ [b])
  | _, _, .nil, h => .cons h .nil
  | _, _, .cons x t, h => .cons x (Paired.snoc t h)
theorem Got.yes {P : Addr → Nat → V → Hp → Prop} {f : Nat → Bool} {D : Addr} {i : Nat} {ys : List V} {y : V} {H : Hp} (g : Got P f D i ys H) (h : f i = true) (hy : P D i y H) : Got P f D (i + 1) (ys ++ [y]) H := by
  unfold Got
  rw [List.range_succ, List.filter_append, List.filter_cons, if_pos h]
  exact Paired.snoc g hy
theorem Got.no {P : Addr → Nat → V → Hp → Prop} {f : Nat → Bool} {D : Addr} {i : Nat} {ys : List V} {H : Hp} (g : Got P f D i ys H) (h : f i = false) : Got P f D (i + 1) ys H := by
  unfold Got
  rw [List.range_succ, List.filter_append, List.filter_cons, if_neg (by rw [h]; decide)]
  show Paired _ (_ ++ []) _
  rw [List.append_nil]
  exact g
theorem Got.len {P : Addr → Nat → V → Hp → Prop} {f : Nat → Bool} {D : Addr} {i : Nat} {ys : List V} {H : Hp} (g : Got P f D i ys H) : ys.length ≤ i := by
  have h1 := Paired.length g
  have h2 := List.length_filter_le f (List.range i)
  rw [List.length_range] at h2
  omega
theorem Got.mono {P : Addr → Nat → V → Hp → Prop} {f : Nat → Bool} {D : Addr} {i : Nat} {ys : List V} {H H' : Hp} (g : Got P f D i ys H) (h : ∀ j y, P D j y H → P D j y H') : Got P f D i ys H' := Paired.mapP g fun a b r => h a b r
/-- values told outright -/
theorem Got.val {f : Nat → Bool} {v : Nat → V} {D : Addr} {i : Nat} {ys : List V} {H : Hp} (g : Got (fun _ i y _ => y = v i) f D i ys H) : ys = ((List.range i).filter f).map v := by
  have go : ∀ {l : List Nat} {r : List V}, Paired (fun i y => y = v i) l r → r = l.map v := by
    intro l r h
    induction h with
    | nil => rfl
    | cons h t ih => rw [h, ih, List.map_cons]
  exact go g

theorem lc_go (w : Walk J n G Y) {g : TG} {tt : TT} {te : TE} {vs : List Nat} {σ : St} {H1 : Hp} {D : Addr} {Qd : Hp → Prop} (P : Addr → Nat → V → Hp → Prop) (f : Nat → Bool) (hn : n ≤ 100000) (hD : H1 D = none)
    (hY : ∀ i H x H', Y i H x H' → Le H H') (hG : ∀ H', Le H1 H' → G H') (hP : ∀ i y H H', LeX D H H' → P D i y H → P D i y H')
    (turn : ∀ i x Ha Hb, i < n → Le H1 Ha → Le H1 Hb → Y i Ha x Hb → (∃ ys, Hb D = some (.lst ys)) → ∀ (QF : Hp → Prop) (QT : V → Hp → Prop), (∀ H2, Le Hb H2 → f i = false → QF H2) → (∀ y H2, Le Hb H2 → f i = true → P D i y H2 → QT y H2) →
      g x (wipe σ vs) Hb fun σ2 H2 => wipe σ2 vs = wipe σ vs ∧ tt σ2 H2 fun b H3 => if b = true then te σ2 H3 QT else QF H3)
    (done : ∀ ys H2, Le H1 H2 → H2 D = some (.lst ys) → Got P f D n ys H2 → Qd H2) :
    ∃ W : Nat → Nat → Hp → Prop, (∃ m, W 0 m (upd H1 D (.lst []))) ∧ ∀ i m H, W i m H →
      (J.stop i H ∧ Qd H) ∨ (J.go i H ∧ ∃ Nx : Hp → Prop, (∀ H', Nx H' → ∃ m', m' < m ∧ W (i + 1) m' H') ∧ ∀ x H', J.yld i H x H' → g x (wipe σ vs) H' fun σ2 H2 => wipe σ2 vs = wipe σ vs ∧ tt σ2 H2 fun b H3 =>
        if b = true then te σ2 H3 fun y H4 => ∃ acc, H4 D = some (.lst acc) ∧ acc.length < sizeLine ∧ Nx (upd H4 D (.lst (acc ++ [y]))) else Nx H3) := by
  refine lc_it w (fun i H => Le H1 H ∧ ∃ ys, H D = some (.lst ys) ∧ Got P f D i ys H) ⟨Le.new hD, [], upd_same, .nil⟩ (fun i H _ p => hG H p.1) ?_ (fun H p => by
    obtain ⟨e, ys, h1, h2⟩ := p
    exact done ys H e h1 h2)
  rintro i x Ha Hb hi ⟨e, ys, h1, h2⟩ y
  have eb := hY i Ha x Hb y
  have hb := eb.lst h1
  refine turn i x Ha Hb hi e (e.trans eb) y ⟨ys, hb⟩ _ _ (fun H2 e2 hf => ?_) (fun z H2 e2 hf hz => ?_)
  · exact ⟨(e.trans eb).trans e2, ys, e2.lst hb, (h2.mono fun j y q => hP j y _ _ (eb.trans e2).x q).no hf⟩
  · refine ⟨ys, e2.lst hb, sz5' (by have := h2.len; omega), ((e.trans eb).trans e2).mut hD (e2.lst hb) rfl, _, upd_same, ?_⟩
    exact ((h2.mono fun j y q => hP j y _ _ (eb.trans e2).x q).yes hf hz).mono fun j y q => hP j y _ _ LeX.upd q
end
end Sw
set_option linter.all false
set_option maxRecDepth 100000
set_option maxHeartbeats 2000000
/-! The facts by names. Printed by gen_tx.py. -/
namespace Sw
open PySem PySem.Spec PyProof.Rows L2 LamX
abbrev cEntry : Addr := 319
abbrev cCache : Addr := 530
abbrev cTable : Addr := 708
abbrev cWorld : Addr := 1061
def gk : List (List Nat) := [[95, 95, 110, 97, 109, 101, 95, 95], [95, 95, 100, 111, 99, 95, 95], [95, 95, 112, 97, 99, 107, 97, 103, 101, 95, 95], [95, 95, 108, 111, 97, 100, 101, 114, 95, 95], [95, 95, 115, 112, 101, 99, 95, 95], [95, 95, 97, 110, 110, 111, 116, 97, 116, 105, 111, 110, 115, 95, 95], [95, 95, 98, 117, 105, 108, 116, 105, 110, 115, 95, 95], [95, 95, 102, 105, 108, 101, 95, 95], [95, 95, 99, 97, 99, 104, 101, 100, 95, 95], [95, 119, 97, 108, 108], [87, 111, 114, 108, 100, 69, 114, 114, 111, 114], [66, 97, 100, 78, 97, 109, 101], [66, 97, 100, 77, 97, 114, 107], [66, 97, 100, 72, 111, 111, 107], [85, 110, 107, 110, 111, 119, 110, 67, 108, 97, 115, 115], [78, 111, 79, 114, 100, 101, 114], [84, 97, 107, 101, 110], [82, 105, 110, 103], [82, 101, 112, 101, 97, 116, 101, 100], [68, 105, 102, 102, 101, 114, 101, 110, 116], [78, 111, 116, 83, 119, 111, 114, 110], [65, 98, 115, 116, 114, 97, 99, 116], [114, 111, 97, 100, 115, 95, 102, 114, 111, 109], [77, 79, 83, 84, 95, 76, 69, 84, 84, 69, 82, 83], [76, 69, 84, 84, 69, 82, 83], [105, 115, 95, 110, 97, 109, 101], [105, 115, 95, 99, 108, 97, 117, 115, 101], [104, 111, 111, 107, 95, 102, 97, 117, 108, 116], [104, 111, 111, 107, 95, 97, 110, 115, 119, 101, 114], [80, 76, 65, 73, 78], [65, 66, 83, 84, 82, 65, 67, 84], [66, 76, 79, 67, 75, 69, 68], [77, 65, 82, 75, 83], [69, 110, 116, 114, 121], [105, 115, 95, 109, 97, 114, 107], [108, 111, 111, 107, 95, 109, 97, 114, 107, 115], [105, 115, 95, 115, 119, 111, 114, 110], [102, 111, 117, 110, 100, 95, 109, 97, 114, 107], [97, 108, 108, 95, 102, 111, 117, 110, 100], [109, 101, 116, 104, 111, 100, 115, 95, 104, 97, 100], [109, 101, 116, 104, 111, 100, 115, 95, 108, 101, 102, 116], [104, 111, 111, 107, 95, 102, 111, 114], [97, 110, 115, 119, 101, 114, 95, 98, 121, 95, 104, 111, 111, 107], [115, 117, 98, 99, 108, 97, 115, 115, 101, 115], [109, 101, 116, 104, 111, 100, 115, 95, 105, 110], [87, 79, 78], [82, 69, 65, 67, 72, 69, 68], [78, 69, 73, 84, 72, 69, 82], [112, 97, 116, 116, 101, 114, 110, 115, 95, 105, 110], [104, 101, 108, 100, 95, 98, 121], [100, 101, 99, 108, 105, 110, 101, 115], [110, 101, 120, 116, 95, 105, 110], [108, 101, 100, 95, 116, 111], [105, 115, 95, 114, 101, 97, 99, 104, 101, 100], [111, 117, 116, 99, 111, 109, 101, 95, 105, 110], [104, 97, 115, 95, 114, 111, 97, 100], [115, 116, 97, 116, 101, 95, 111, 102], [105, 115, 95, 110, 101, 101, 100, 108, 101, 115, 115, 95, 105, 110], [110, 101, 101, 100, 108, 101, 115, 115], [107, 101, 114, 110, 101, 108], [108, 111, 111, 107, 95, 115, 97, 109, 101], [102, 105, 114, 115, 116, 95, 100, 105, 102, 102, 101, 114, 101, 110, 99, 101], [97, 108, 105, 107, 101], [67, 97, 99, 104, 101], [99, 97, 110, 95, 98, 101, 95, 102, 105, 114, 115, 116], [109, 101, 114, 103, 101, 100], [108, 111, 111, 107, 95, 98, 97, 115, 101, 115], [108, 111, 111, 107, 95, 104, 111, 111, 107], [110, 101, 119, 95, 101, 110, 116, 114, 121], [84, 97, 98, 108, 101], [84, 104, 105, 110, 103], [87, 111, 114, 108, 100], [95, 108, 97, 119, 95, 98, 97, 103], [95, 108, 97, 119, 95, 116, 97, 107, 101], [95, 108, 97, 119, 95, 112, 105, 99, 107], [95, 108, 97, 119, 95, 109, 101, 114, 103, 101], [95, 108, 97, 119, 95, 110, 101, 119], [95, 108, 97, 119, 95, 99, 111, 112, 121], [95, 108, 97, 119, 95, 115, 119, 111, 114, 110], [95, 108, 97, 119, 95, 110, 101, 120, 116], [95, 108, 97, 119, 95, 108, 101, 100], [95, 108, 97, 119, 95, 109, 97, 107, 101], [95, 108, 97, 119, 95, 110, 101, 119, 95, 114, 117, 108, 101], [95, 108, 97, 119, 95, 99, 108, 97, 115, 115], [95, 108, 97, 119, 95, 97, 100, 109, 105, 116, 115], [95, 108, 97, 119, 95, 97, 100, 109, 105, 116], [95, 108, 97, 119, 95, 115, 111, 109, 101, 95, 97, 100, 109, 105, 116, 116, 101, 100], [95, 108, 97, 119, 95, 100, 114, 97, 119, 110], [95, 108, 97, 119, 95, 109, 97, 100, 101, 95, 105, 110], [95, 108, 97, 119, 95, 109, 97, 100, 101], [95, 108, 97, 119, 95, 108, 105, 115, 116, 101, 100], [95, 108, 97, 119, 95, 119, 105, 116, 104, 111, 117, 116], [95, 108, 97, 119, 95, 101, 110, 100], [108, 97, 119]]
theorem gk_eq : gimg.map (fun p => p.1.map fun x => x.cps.toList) = gk.map some := by decide +kernel
structure Tx (K : PySem.W.Frag) (mg : Str → Option Value) : Prop where
  says : Says K
  ns : ∃ h : Heap, K.In h ∧ h.Ns mainGlobals mg
section
variable {K : PySem.W.Frag} {mg : Str → Option Value}
theorem Tx.fn (T : Tx K mg) (i : Nat) {d : FnI} (h : fnL[i]? = some d) : ∃ fd, FunD K d.name d.qual d.params d.body d.scope [] d.kws d.f fd := by
  have c := (He.ba T.says.ch).1
  refine fn_says ?_ (List.all_eq_true.mp c d (List.mem_of_getElem? h))
  have e : (fnL.map fun d => fnAt K d.f)[i]? = (fnL.map FnI.val)[i]? := by rw [T.says.fns]
  rw [List.getElem?_map, List.getElem?_map, h] at e
  exact Option.some.inj e
theorem Tx.gl (T : Tx K mg) (i : Nat) {x : Str} {v : V} (hi : gimg[i]? = some (some x, some v)) (hn : noKey gimg i x = true) : ∃ u, mg x = some u ∧ RelV v u := by
  obtain ⟨h, KX, G⟩ := T.ns
  obtain ⟨u, h1, h2⟩ := nsIn_img T.says.img i hi hn
  exact ⟨u, PySem.W.mg_of KX G h1, h2⟩
theorem Tx.gr (T : Tx K mg) (i : Nat) {x : Str} {a : Addr} (hi : gimg[i]? = some (some x, some (.ref a))) (hn : noKey gimg i x = true) : mg x = some (.ref a) := by
  obtain ⟨u, h1, h2⟩ := T.gl i hi hn
  rw [h1]
  exact congrArg some h2
def noKeyL (i : Nat) (c : List Nat) : Bool := (gk.take i).all fun k => !(k == c)
theorem noKeyL_ok {i : Nat} {x : Str} {c : List Nat} (hx : x.cps.toList = c) (h : noKeyL i c = true) : noKey gimg i x = true := by
  refine List.all_eq_true.mpr fun p hp => ?_
  obtain ⟨j, hj, e⟩ := List.mem_iff_getElem.mp hp
  have hi : j < i := by rw [List.length_take] at hj; omega
  have hg : j < gimg.length := by rw [List.length_take] at hj; omega
  have e1 : gimg[j] = p := by rw [← e, List.getElem_take]
  have q := congrArg (fun l => l[j]?) gk_eq
  simp only [List.getElem?_map] at q
  rw [List.getElem?_eq_getElem hg, e1] at q
  cases z : gk[j]? with
  | none => rw [z] at q; cases q
  | some k =>
    rw [z] at q
    have q' : p.1.map (fun x => x.cps.toList) = some k := Option.some.inj q
    have hk : k ∈ gk.take i := List.mem_of_getElem? (i := j) (by rw [List.getElem?_take_of_lt hi]; exact z)
    have hne := List.all_eq_true.mp h k hk
    simp only [Bool.not_eq_true', beq_eq_false_iff_ne, ne_eq] at hne
    simp only [Bool.not_eq_true', decide_eq_false_iff_not]
    intro w
    rw [w] at q'
    exact hne ((Option.some.inj q').symm.trans hx)
theorem keys_all : (gimg.all fun p => p.1.isSome) = true := by decide +kernel
theorem Tx.fr (T : Tx K mg) {x : Str} (hn : noKey gimg gimg.length x = true) : mg x = none := by
  obtain ⟨h, KX, G⟩ := T.ns
  exact PySem.W.mg_none_of KX G (nsIn_out T.says.img hn keys_all)
theorem gi_len : gimg.length = 94 := by decide +kernel
theorem Tx.fr2 (T : Tx K mg) {x : Str} {c : List Nat} (hx : x.cps.toList = c) (hn : noKeyL 94 c = true) : mg x = none := T.fr (by rw [gi_len]; exact noKeyL_ok hx hn)
theorem Tx.ch1 (T : Tx K mg) : (clL.all fun C => clsB K C) = true := (He.ba (He.ba T.says.ch).2).1
theorem Tx.ch2 (T : Tx K mg) : (mkL.all fun p => mkB K p.1 p.2) = true := (He.ba (He.ba (He.ba T.says.ch).2).2).1
theorem Tx.ch3 (T : Tx K mg) : (noL.all fun p => noB K p.1 p.2) = true := (He.ba (He.ba (He.ba (He.ba T.says.ch).2).2).2).1
theorem Tx.ch4 (T : Tx K mg) : (mtL.all fun p => mtB K p.1 p.2.1 p.2.2) = true := (He.ba (He.ba (He.ba (He.ba (He.ba T.says.ch).2).2).2).2).1
theorem Tx.ch5 (T : Tx K mg) : prB K 1061 "names" 825 824 = true ∧ tupA K 281 [.str "plain", .str "abstract", .str "blocked"] = true ∧ (cdL.all fun p => cdB K p.1 p.2) = true := ⟨(He.ba (He.ba (He.ba (He.ba (He.ba (He.ba T.says.ch).2).2).2).2).2).1, He.ba (He.ba (He.ba (He.ba (He.ba (He.ba (He.ba T.says.ch).2).2).2).2).2).2⟩
theorem FunD.okC {P : Program} {w : World} {base : Heap} {x qual : Str} {params : Arguments} {body : List Stmt} {scope : Scope} {dvs : List V} {kws : List (Str × V)} {f c : Addr} {fd : FuncData} {N ps : List Str} {k : Nat} {sp : Sp} (T : Tx K mg) (hc : (f, c) ∈ cdL) (F : FunD K x qual params body scope dvs kws f fd) (S : FnScope N ps scope) (len : ∀ vs H Q E, sp vs H Q E → vs.length = ps.length)
    (hbody : ∀ (A : Around) (outer : List Env) (s : Shared) (H : Hp) (vs : List V) (Q : VK) (E : XK), Room k (A.deeper (envOfC qual scope s.heap.objs.size f (.ref c))) → sp vs H Q E →
      ∃ t, PSs (cxOf CX0 P w K mg base N qual scope f (.ref c) A outer s H E) body t ∧ t { nx := fun _ H' => Q .non H', rt := Q } (start N vs) H) : FnOk P w K mg base CX0 (k + 1) f fd ps sp := by
  obtain ⟨oc, od, dV, kV, doc, pm, an, cdv, ct, osl, rfl, lk, hcd, _, _⟩ := F.ex
  have e : cdv = .ref c := cdB_ok (List.all_eq_true.mp T.ch5.2.2 _ hc) lk
  subst e
  exact fn_of lk hcd S len fun A outer s H vs Q E hr hsp => hbody A outer s H vs Q E hr hsp
theorem Tx.g_roads_from (T : Tx K mg) : mg "roads_from" = some (.ref 258) := T.gr 22 rfl (noKeyL_ok (c := [114, 111, 97, 100, 115, 95, 102, 114, 111, 109]) (by decide +kernel) (by decide +kernel))
theorem Tx.g_is_name (T : Tx K mg) : mg "is_name" = some (.ref 263) := T.gr 25 rfl (noKeyL_ok (c := [105, 115, 95, 110, 97, 109, 101]) (by decide +kernel) (by decide +kernel))
theorem Tx.g_is_clause (T : Tx K mg) : mg "is_clause" = some (.ref 268) := T.gr 26 rfl (noKeyL_ok (c := [105, 115, 95, 99, 108, 97, 117, 115, 101]) (by decide +kernel) (by decide +kernel))
theorem Tx.g_hook_fault (T : Tx K mg) : mg "hook_fault" = some (.ref 275) := T.gr 27 rfl (noKeyL_ok (c := [104, 111, 111, 107, 95, 102, 97, 117, 108, 116]) (by decide +kernel) (by decide +kernel))
theorem Tx.g_hook_answer (T : Tx K mg) : mg "hook_answer" = some (.ref 280) := T.gr 28 rfl (noKeyL_ok (c := [104, 111, 111, 107, 95, 97, 110, 115, 119, 101, 114]) (by decide +kernel) (by decide +kernel))
theorem Tx.g_is_mark (T : Tx K mg) : mg "is_mark" = some (.ref 330) := T.gr 34 rfl (noKeyL_ok (c := [105, 115, 95, 109, 97, 114, 107]) (by decide +kernel) (by decide +kernel))
theorem Tx.g_look_marks (T : Tx K mg) : mg "look_marks" = some (.ref 337) := T.gr 35 rfl (noKeyL_ok (c := [108, 111, 111, 107, 95, 109, 97, 114, 107, 115]) (by decide +kernel) (by decide +kernel))
theorem Tx.g_is_sworn (T : Tx K mg) : mg "is_sworn" = some (.ref 342) := T.gr 36 rfl (noKeyL_ok (c := [105, 115, 95, 115, 119, 111, 114, 110]) (by decide +kernel) (by decide +kernel))
theorem Tx.g_hook_for (T : Tx K mg) : mg "hook_for" = some (.ref 373) := T.gr 41 rfl (noKeyL_ok (c := [104, 111, 111, 107, 95, 102, 111, 114]) (by decide +kernel) (by decide +kernel))
theorem Tx.g_answer_by_hook (T : Tx K mg) : mg "answer_by_hook" = some (.ref 380) := T.gr 42 rfl (noKeyL_ok (c := [97, 110, 115, 119, 101, 114, 95, 98, 121, 95, 104, 111, 111, 107]) (by decide +kernel) (by decide +kernel))
theorem Tx.g_subclasses (T : Tx K mg) : mg "subclasses" = some (.ref 385) := T.gr 43 rfl (noKeyL_ok (c := [115, 117, 98, 99, 108, 97, 115, 115, 101, 115]) (by decide +kernel) (by decide +kernel))
theorem Tx.g_methods_in (T : Tx K mg) : mg "methods_in" = some (.ref 390) := T.gr 44 rfl (noKeyL_ok (c := [109, 101, 116, 104, 111, 100, 115, 95, 105, 110]) (by decide +kernel) (by decide +kernel))
theorem Tx.g_patterns_in (T : Tx K mg) : mg "patterns_in" = some (.ref 395) := T.gr 48 rfl (noKeyL_ok (c := [112, 97, 116, 116, 101, 114, 110, 115, 95, 105, 110]) (by decide +kernel) (by decide +kernel))
theorem Tx.g_held_by (T : Tx K mg) : mg "held_by" = some (.ref 400) := T.gr 49 rfl (noKeyL_ok (c := [104, 101, 108, 100, 95, 98, 121]) (by decide +kernel) (by decide +kernel))
theorem Tx.g_declines (T : Tx K mg) : mg "declines" = some (.ref 407) := T.gr 50 rfl (noKeyL_ok (c := [100, 101, 99, 108, 105, 110, 101, 115]) (by decide +kernel) (by decide +kernel))
theorem Tx.g_next_in (T : Tx K mg) : mg "next_in" = some (.ref 412) := T.gr 51 rfl (noKeyL_ok (c := [110, 101, 120, 116, 95, 105, 110]) (by decide +kernel) (by decide +kernel))
theorem Tx.g_led_to (T : Tx K mg) : mg "led_to" = some (.ref 419) := T.gr 52 rfl (noKeyL_ok (c := [108, 101, 100, 95, 116, 111]) (by decide +kernel) (by decide +kernel))
theorem Tx.g_is_reached (T : Tx K mg) : mg "is_reached" = some (.ref 424) := T.gr 53 rfl (noKeyL_ok (c := [105, 115, 95, 114, 101, 97, 99, 104, 101, 100]) (by decide +kernel) (by decide +kernel))
theorem Tx.g_outcome_in (T : Tx K mg) : mg "outcome_in" = some (.ref 429) := T.gr 54 rfl (noKeyL_ok (c := [111, 117, 116, 99, 111, 109, 101, 95, 105, 110]) (by decide +kernel) (by decide +kernel))
theorem Tx.g_has_road (T : Tx K mg) : mg "has_road" = some (.ref 436) := T.gr 55 rfl (noKeyL_ok (c := [104, 97, 115, 95, 114, 111, 97, 100]) (by decide +kernel) (by decide +kernel))
theorem Tx.g_state_of (T : Tx K mg) : mg "state_of" = some (.ref 441) := T.gr 56 rfl (noKeyL_ok (c := [115, 116, 97, 116, 101, 95, 111, 102]) (by decide +kernel) (by decide +kernel))
theorem Tx.g_is_needless_in (T : Tx K mg) : mg "is_needless_in" = some (.ref 448) := T.gr 57 rfl (noKeyL_ok (c := [105, 115, 95, 110, 101, 101, 100, 108, 101, 115, 115, 95, 105, 110]) (by decide +kernel) (by decide +kernel))
theorem Tx.g_needless (T : Tx K mg) : mg "needless" = some (.ref 453) := T.gr 58 rfl (noKeyL_ok (c := [110, 101, 101, 100, 108, 101, 115, 115]) (by decide +kernel) (by decide +kernel))
theorem Tx.g_kernel (T : Tx K mg) : mg "kernel" = some (.ref 458) := T.gr 59 rfl (noKeyL_ok (c := [107, 101, 114, 110, 101, 108]) (by decide +kernel) (by decide +kernel))
theorem Tx.g_look_same (T : Tx K mg) : mg "look_same" = some (.ref 465) := T.gr 60 rfl (noKeyL_ok (c := [108, 111, 111, 107, 95, 115, 97, 109, 101]) (by decide +kernel) (by decide +kernel))
theorem Tx.g_first_difference (T : Tx K mg) : mg "first_difference" = some (.ref 470) := T.gr 61 rfl (noKeyL_ok (c := [102, 105, 114, 115, 116, 95, 100, 105, 102, 102, 101, 114, 101, 110, 99, 101]) (by decide +kernel) (by decide +kernel))
theorem Tx.g_alike (T : Tx K mg) : mg "alike" = some (.ref 477) := T.gr 62 rfl (noKeyL_ok (c := [97, 108, 105, 107, 101]) (by decide +kernel) (by decide +kernel))
theorem Tx.g_can_be_first (T : Tx K mg) : mg "can_be_first" = some (.ref 539) := T.gr 64 rfl (noKeyL_ok (c := [99, 97, 110, 95, 98, 101, 95, 102, 105, 114, 115, 116]) (by decide +kernel) (by decide +kernel))
theorem Tx.g_merged (T : Tx K mg) : mg "merged" = some (.ref 544) := T.gr 65 rfl (noKeyL_ok (c := [109, 101, 114, 103, 101, 100]) (by decide +kernel) (by decide +kernel))
theorem Tx.g_look_bases (T : Tx K mg) : mg "look_bases" = some (.ref 551) := T.gr 66 rfl (noKeyL_ok (c := [108, 111, 111, 107, 95, 98, 97, 115, 101, 115]) (by decide +kernel) (by decide +kernel))
theorem Tx.g_look_hook (T : Tx K mg) : mg "look_hook" = some (.ref 558) := T.gr 67 rfl (noKeyL_ok (c := [108, 111, 111, 107, 95, 104, 111, 111, 107]) (by decide +kernel) (by decide +kernel))
theorem Tx.g_new_entry (T : Tx K mg) : mg "new_entry" = some (.ref 563) := T.gr 68 rfl (noKeyL_ok (c := [110, 101, 119, 95, 101, 110, 116, 114, 121]) (by decide +kernel) (by decide +kernel))
theorem Tx.g_Lbag (T : Tx K mg) : mg "_law_bag" = some (.ref 1072) := T.gr 72 rfl (noKeyL_ok (c := [95, 108, 97, 119, 95, 98, 97, 103]) (by decide +kernel) (by decide +kernel))
theorem Tx.g_Ltake (T : Tx K mg) : mg "_law_take" = some (.ref 1079) := T.gr 73 rfl (noKeyL_ok (c := [95, 108, 97, 119, 95, 116, 97, 107, 101]) (by decide +kernel) (by decide +kernel))
theorem Tx.g_Lpick (T : Tx K mg) : mg "_law_pick" = some (.ref 1086) := T.gr 74 rfl (noKeyL_ok (c := [95, 108, 97, 119, 95, 112, 105, 99, 107]) (by decide +kernel) (by decide +kernel))
theorem Tx.g_Lmerge (T : Tx K mg) : mg "_law_merge" = some (.ref 1091) := T.gr 75 rfl (noKeyL_ok (c := [95, 108, 97, 119, 95, 109, 101, 114, 103, 101]) (by decide +kernel) (by decide +kernel))
theorem Tx.g_Lnew (T : Tx K mg) : mg "_law_new" = some (.ref 1098) := T.gr 76 rfl (noKeyL_ok (c := [95, 108, 97, 119, 95, 110, 101, 119]) (by decide +kernel) (by decide +kernel))
theorem Tx.g_Lcopy (T : Tx K mg) : mg "_law_copy" = some (.ref 1103) := T.gr 77 rfl (noKeyL_ok (c := [95, 108, 97, 119, 95, 99, 111, 112, 121]) (by decide +kernel) (by decide +kernel))
theorem Tx.g_Lsworn (T : Tx K mg) : mg "_law_sworn" = some (.ref 1108) := T.gr 78 rfl (noKeyL_ok (c := [95, 108, 97, 119, 95, 115, 119, 111, 114, 110]) (by decide +kernel) (by decide +kernel))
theorem Tx.g_Lnext (T : Tx K mg) : mg "_law_next" = some (.ref 1113) := T.gr 79 rfl (noKeyL_ok (c := [95, 108, 97, 119, 95, 110, 101, 120, 116]) (by decide +kernel) (by decide +kernel))
theorem Tx.g_Lled (T : Tx K mg) : mg "_law_led" = some (.ref 1118) := T.gr 80 rfl (noKeyL_ok (c := [95, 108, 97, 119, 95, 108, 101, 100]) (by decide +kernel) (by decide +kernel))
theorem Tx.g_Lmake (T : Tx K mg) : mg "_law_make" = some (.ref 1123) := T.gr 81 rfl (noKeyL_ok (c := [95, 108, 97, 119, 95, 109, 97, 107, 101]) (by decide +kernel) (by decide +kernel))
theorem Tx.g_Lnew_rule (T : Tx K mg) : mg "_law_new_rule" = some (.ref 1128) := T.gr 82 rfl (noKeyL_ok (c := [95, 108, 97, 119, 95, 110, 101, 119, 95, 114, 117, 108, 101]) (by decide +kernel) (by decide +kernel))
theorem Tx.g_Lclass (T : Tx K mg) : mg "_law_class" = some (.ref 1135) := T.gr 83 rfl (noKeyL_ok (c := [95, 108, 97, 119, 95, 99, 108, 97, 115, 115]) (by decide +kernel) (by decide +kernel))
theorem Tx.g_Ladmits (T : Tx K mg) : mg "_law_admits" = some (.ref 1142) := T.gr 84 rfl (noKeyL_ok (c := [95, 108, 97, 119, 95, 97, 100, 109, 105, 116, 115]) (by decide +kernel) (by decide +kernel))
theorem Tx.g_Ladmit (T : Tx K mg) : mg "_law_admit" = some (.ref 1149) := T.gr 85 rfl (noKeyL_ok (c := [95, 108, 97, 119, 95, 97, 100, 109, 105, 116]) (by decide +kernel) (by decide +kernel))
theorem Tx.g_Lsome_admitted (T : Tx K mg) : mg "_law_some_admitted" = some (.ref 1156) := T.gr 86 rfl (noKeyL_ok (c := [95, 108, 97, 119, 95, 115, 111, 109, 101, 95, 97, 100, 109, 105, 116, 116, 101, 100]) (by decide +kernel) (by decide +kernel))
theorem Tx.g_Ldrawn (T : Tx K mg) : mg "_law_drawn" = some (.ref 1163) := T.gr 87 rfl (noKeyL_ok (c := [95, 108, 97, 119, 95, 100, 114, 97, 119, 110]) (by decide +kernel) (by decide +kernel))
theorem Tx.g_Lmade_in (T : Tx K mg) : mg "_law_made_in" = some (.ref 1170) := T.gr 88 rfl (noKeyL_ok (c := [95, 108, 97, 119, 95, 109, 97, 100, 101, 95, 105, 110]) (by decide +kernel) (by decide +kernel))
theorem Tx.g_Lmade (T : Tx K mg) : mg "_law_made" = some (.ref 1177) := T.gr 89 rfl (noKeyL_ok (c := [95, 108, 97, 119, 95, 109, 97, 100, 101]) (by decide +kernel) (by decide +kernel))
theorem Tx.g_Llisted (T : Tx K mg) : mg "_law_listed" = some (.ref 1182) := T.gr 90 rfl (noKeyL_ok (c := [95, 108, 97, 119, 95, 108, 105, 115, 116, 101, 100]) (by decide +kernel) (by decide +kernel))
theorem Tx.g_Lwithout (T : Tx K mg) : mg "_law_without" = some (.ref 1189) := T.gr 91 rfl (noKeyL_ok (c := [95, 108, 97, 119, 95, 119, 105, 116, 104, 111, 117, 116]) (by decide +kernel) (by decide +kernel))
theorem Tx.g_Lend (T : Tx K mg) : mg "_law_end" = some (.ref 1196) := T.gr 92 rfl (noKeyL_ok (c := [95, 108, 97, 119, 95, 101, 110, 100]) (by decide +kernel) (by decide +kernel))
theorem Tx.g_law (T : Tx K mg) : mg "law" = some (.ref 1203) := T.gr 93 rfl (noKeyL_ok (c := [108, 97, 119]) (by decide +kernel) (by decide +kernel))
theorem Tx.c_Entry (T : Tx K mg) : mg "Entry" = some (.ref 319) := T.gr 33 rfl (noKeyL_ok (c := [69, 110, 116, 114, 121]) (by decide +kernel) (by decide +kernel))
theorem Tx.c_Cache (T : Tx K mg) : mg "Cache" = some (.ref 530) := T.gr 63 rfl (noKeyL_ok (c := [67, 97, 99, 104, 101]) (by decide +kernel) (by decide +kernel))
theorem Tx.c_Table (T : Tx K mg) : mg "Table" = some (.ref 708) := T.gr 69 rfl (noKeyL_ok (c := [84, 97, 98, 108, 101]) (by decide +kernel) (by decide +kernel))
theorem Tx.c_World (T : Tx K mg) : mg "World" = some (.ref 1061) := T.gr 71 rfl (noKeyL_ok (c := [87, 111, 114, 108, 100]) (by decide +kernel) (by decide +kernel))
theorem Tx.v_MARKS (T : Tx K mg) : ∃ u, mg "MARKS" = some u ∧ RelV (.ref 281) u := T.gl 32 rfl (noKeyL_ok (c := [77, 65, 82, 75, 83]) (by decide +kernel) (by decide +kernel))
theorem Tx.v_WON (T : Tx K mg) : ∃ u, mg "WON" = some u ∧ RelV (.str "won") u := T.gl 45 rfl (noKeyL_ok (c := [87, 79, 78]) (by decide +kernel) (by decide +kernel))
theorem Tx.v_REACHED (T : Tx K mg) : ∃ u, mg "REACHED" = some u ∧ RelV (.str "reached") u := T.gl 46 rfl (noKeyL_ok (c := [82, 69, 65, 67, 72, 69, 68]) (by decide +kernel) (by decide +kernel))
theorem Tx.v_NEITHER (T : Tx K mg) : ∃ u, mg "NEITHER" = some u ∧ RelV (.str "neither") u := T.gl 47 rfl (noKeyL_ok (c := [78, 69, 73, 84, 72, 69, 82]) (by decide +kernel) (by decide +kernel))
theorem Tx.v_LETTERS (T : Tx K mg) : ∃ u, mg "LETTERS" = some u ∧ RelV (.str "abcdefghijklmnopqrstuvwxyz") u := T.gl 24 rfl (noKeyL_ok (c := [76, 69, 84, 84, 69, 82, 83]) (by decide +kernel) (by decide +kernel))
theorem Tx.v_MOST_LETTERS (T : Tx K mg) : ∃ u, mg "MOST_LETTERS" = some u ∧ RelV (.int 8) u := T.gl 23 rfl (noKeyL_ok (c := [77, 79, 83, 84, 95, 76, 69, 84, 84, 69, 82, 83]) (by decide +kernel) (by decide +kernel))
theorem Tx.f_len (T : Tx K mg) : mg "len" = none := T.fr2 (c := [108, 101, 110]) (by decide +kernel) (by decide +kernel)
theorem Tx.f_list (T : Tx K mg) : mg "list" = none := T.fr2 (c := [108, 105, 115, 116]) (by decide +kernel) (by decide +kernel)
theorem Tx.f_isinstance (T : Tx K mg) : mg "isinstance" = none := T.fr2 (c := [105, 115, 105, 110, 115, 116, 97, 110, 99, 101]) (by decide +kernel) (by decide +kernel)
theorem Tx.f_str (T : Tx K mg) : mg "str" = none := T.fr2 (c := [115, 116, 114]) (by decide +kernel) (by decide +kernel)
theorem Tx.f_all (T : Tx K mg) : mg "all" = none := T.fr2 (c := [97, 108, 108]) (by decide +kernel) (by decide +kernel)
theorem Tx.f_any (T : Tx K mg) : mg "any" = none := T.fr2 (c := [97, 110, 121]) (by decide +kernel) (by decide +kernel)
theorem Tx.f_tuple (T : Tx K mg) : mg "tuple" = none := T.fr2 (c := [116, 117, 112, 108, 101]) (by decide +kernel) (by decide +kernel)
theorem Tx.f_bool (T : Tx K mg) : mg "bool" = none := T.fr2 (c := [98, 111, 111, 108]) (by decide +kernel) (by decide +kernel)
theorem Tx.f_set (T : Tx K mg) : mg "set" = none := T.fr2 (c := [115, 101, 116]) (by decide +kernel) (by decide +kernel)
theorem Tx.f_enumerate (T : Tx K mg) : mg "enumerate" = none := T.fr2 (c := [101, 110, 117, 109, 101, 114, 97, 116, 101]) (by decide +kernel) (by decide +kernel)
theorem Tx.f_dict (T : Tx K mg) : mg "dict" = none := T.fr2 (c := [100, 105, 99, 116]) (by decide +kernel) (by decide +kernel)
theorem Tx.f_sorted (T : Tx K mg) : mg "sorted" = none := T.fr2 (c := [115, 111, 114, 116, 101, 100]) (by decide +kernel) (by decide +kernel)
theorem Tx.f_min (T : Tx K mg) : mg "min" = none := T.fr2 (c := [109, 105, 110]) (by decide +kernel) (by decide +kernel)
theorem Tx.f_zip (T : Tx K mg) : mg "zip" = none := T.fr2 (c := [122, 105, 112]) (by decide +kernel) (by decide +kernel)
theorem Tx.f_max (T : Tx K mg) : mg "max" = none := T.fr2 (c := [109, 97, 120]) (by decide +kernel) (by decide +kernel)
theorem Tx.f_abs (T : Tx K mg) : mg "abs" = none := T.fr2 (c := [97, 98, 115]) (by decide +kernel) (by decide +kernel)
theorem Tx.f_range (T : Tx K mg) : mg "range" = none := T.fr2 (c := [114, 97, 110, 103, 101]) (by decide +kernel) (by decide +kernel)
theorem Tx.cl_Entry (T : Tx K mg) : Cls K 319 := clsB_ok (List.all_eq_true.mp T.ch1 319 (List.mem_of_getElem? (i := 0) rfl))
theorem Tx.mk_Entry (T : Tx K mg) : Mk K 319 295 := mkB_ok (List.all_eq_true.mp T.ch2 (319, 295) (List.mem_of_getElem? (i := 0) rfl))
theorem Tx.cl_Cache (T : Tx K mg) : Cls K 530 := clsB_ok (List.all_eq_true.mp T.ch1 530 (List.mem_of_getElem? (i := 1) rfl))
theorem Tx.mk_Cache (T : Tx K mg) : Mk K 530 491 := mkB_ok (List.all_eq_true.mp T.ch2 (530, 491) (List.mem_of_getElem? (i := 1) rfl))
theorem Tx.cl_Table (T : Tx K mg) : Cls K 708 := clsB_ok (List.all_eq_true.mp T.ch1 708 (List.mem_of_getElem? (i := 2) rfl))
theorem Tx.mk_Table (T : Tx K mg) : Mk K 708 577 := mkB_ok (List.all_eq_true.mp T.ch2 (708, 577) (List.mem_of_getElem? (i := 2) rfl))
theorem Tx.cl_World (T : Tx K mg) : Cls K 1061 := clsB_ok (List.all_eq_true.mp T.ch1 1061 (List.mem_of_getElem? (i := 3) rfl))
theorem Tx.mk_World (T : Tx K mg) : Mk K 1061 777 := mkB_ok (List.all_eq_true.mp T.ch2 (1061, 777) (List.mem_of_getElem? (i := 3) rfl))
theorem Tx.n_Entry_label (T : Tx K mg) : NoAttr K 319 "label" := noB_ok (List.all_eq_true.mp T.ch3 (319, "label") (List.mem_of_getElem? (i := 0) rfl))
theorem Tx.n_Entry_parents (T : Tx K mg) : NoAttr K 319 "parents" := noB_ok (List.all_eq_true.mp T.ch3 (319, "parents") (List.mem_of_getElem? (i := 1) rfl))
theorem Tx.n_Entry_own_sworn (T : Tx K mg) : NoAttr K 319 "own_sworn" := noB_ok (List.all_eq_true.mp T.ch3 (319, "own_sworn") (List.mem_of_getElem? (i := 2) rfl))
theorem Tx.n_Entry_given_marks (T : Tx K mg) : NoAttr K 319 "given_marks" := noB_ok (List.all_eq_true.mp T.ch3 (319, "given_marks") (List.mem_of_getElem? (i := 3) rfl))
theorem Tx.n_Entry_own_hook (T : Tx K mg) : NoAttr K 319 "own_hook" := noB_ok (List.all_eq_true.mp T.ch3 (319, "own_hook") (List.mem_of_getElem? (i := 4) rfl))
theorem Tx.n_Entry_passed_on (T : Tx K mg) : NoAttr K 319 "passed_on" := noB_ok (List.all_eq_true.mp T.ch3 (319, "passed_on") (List.mem_of_getElem? (i := 5) rfl))
theorem Tx.n_Entry_line (T : Tx K mg) : NoAttr K 319 "line" := noB_ok (List.all_eq_true.mp T.ch3 (319, "line") (List.mem_of_getElem? (i := 6) rfl))
theorem Tx.n_Cache_kept (T : Tx K mg) : NoAttr K 530 "kept" := noB_ok (List.all_eq_true.mp T.ch3 (530, "kept") (List.mem_of_getElem? (i := 7) rfl))
theorem Tx.n_Table_records (T : Tx K mg) : NoAttr K 708 "records" := noB_ok (List.all_eq_true.mp T.ch3 (708, "records") (List.mem_of_getElem? (i := 8) rfl))
theorem Tx.n_Table_numbers (T : Tx K mg) : NoAttr K 708 "numbers" := noB_ok (List.all_eq_true.mp T.ch3 (708, "numbers") (List.mem_of_getElem? (i := 9) rfl))
theorem Tx.n_Table_lists (T : Tx K mg) : NoAttr K 708 "lists" := noB_ok (List.all_eq_true.mp T.ch3 (708, "lists") (List.mem_of_getElem? (i := 10) rfl))
theorem Tx.n_Table_made (T : Tx K mg) : NoAttr K 708 "made" := noB_ok (List.all_eq_true.mp T.ch3 (708, "made") (List.mem_of_getElem? (i := 11) rfl))
theorem Tx.n_World_table (T : Tx K mg) : NoAttr K 1061 "table" := noB_ok (List.all_eq_true.mp T.ch3 (1061, "table") (List.mem_of_getElem? (i := 12) rfl))
theorem Tx.n_World_cache (T : Tx K mg) : NoAttr K 1061 "cache" := noB_ok (List.all_eq_true.mp T.ch3 (1061, "cache") (List.mem_of_getElem? (i := 13) rfl))
theorem Tx.n_World_visits (T : Tx K mg) : NoAttr K 1061 "visits" := noB_ok (List.all_eq_true.mp T.ch3 (1061, "visits") (List.mem_of_getElem? (i := 14) rfl))
theorem Tx.n_World_things (T : Tx K mg) : NoAttr K 1061 "things" := noB_ok (List.all_eq_true.mp T.ch3 (1061, "things") (List.mem_of_getElem? (i := 15) rfl))
theorem Tx.n_World_choice_lists (T : Tx K mg) : NoAttr K 1061 "choice_lists" := noB_ok (List.all_eq_true.mp T.ch3 (1061, "choice_lists") (List.mem_of_getElem? (i := 16) rfl))
theorem Tx.m_Cache_refresh (T : Tx K mg) : Meth K 530 "refresh" 527 := mtB_ok (List.all_eq_true.mp T.ch4 (530, "refresh", 527) (List.mem_of_getElem? (i := 0) rfl))
theorem Tx.m_Table_copied (T : Tx K mg) : Meth K 708 "copied" 582 := mtB_ok (List.all_eq_true.mp T.ch4 (708, "copied", 582) (List.mem_of_getElem? (i := 1) rfl))
theorem Tx.m_Table_has (T : Tx K mg) : Meth K 708 "has" 589 := mtB_ok (List.all_eq_true.mp T.ch4 (708, "has", 589) (List.mem_of_getElem? (i := 2) rfl))
theorem Tx.m_Table_all_names (T : Tx K mg) : Meth K 708 "all_names" 596 := mtB_ok (List.all_eq_true.mp T.ch4 (708, "all_names", 596) (List.mem_of_getElem? (i := 3) rfl))
theorem Tx.m_Table_add_class (T : Tx K mg) : Meth K 708 "add_class" 603 := mtB_ok (List.all_eq_true.mp T.ch4 (708, "add_class", 603) (List.mem_of_getElem? (i := 4) rfl))
theorem Tx.m_Table_add_registration (T : Tx K mg) : Meth K 708 "add_registration" 624 := mtB_ok (List.all_eq_true.mp T.ch4 (708, "add_registration", 624) (List.mem_of_getElem? (i := 5) rfl))
theorem Tx.m_Table_remove_registration (T : Tx K mg) : Meth K 708 "remove_registration" 631 := mtB_ok (List.all_eq_true.mp T.ch4 (708, "remove_registration", 631) (List.mem_of_getElem? (i := 6) rfl))
theorem Tx.m_Table_registrations (T : Tx K mg) : Meth K 708 "registrations" 636 := mtB_ok (List.all_eq_true.mp T.ch4 (708, "registrations", 636) (List.mem_of_getElem? (i := 7) rfl))
theorem Tx.m_Table_is_above (T : Tx K mg) : Meth K 708 "is_above" 643 := mtB_ok (List.all_eq_true.mp T.ch4 (708, "is_above", 643) (List.mem_of_getElem? (i := 8) rfl))
theorem Tx.m_Table_sworn (T : Tx K mg) : Meth K 708 "sworn" 650 := mtB_ok (List.all_eq_true.mp T.ch4 (708, "sworn", 650) (List.mem_of_getElem? (i := 9) rfl))
theorem Tx.m_Table_below (T : Tx K mg) : Meth K 708 "below" 657 := mtB_ok (List.all_eq_true.mp T.ch4 (708, "below", 657) (List.mem_of_getElem? (i := 10) rfl))
theorem Tx.m_Table_next_of (T : Tx K mg) : Meth K 708 "next_of" 662 := mtB_ok (List.all_eq_true.mp T.ch4 (708, "next_of", 662) (List.mem_of_getElem? (i := 11) rfl))
theorem Tx.m_Table_answer_for (T : Tx K mg) : Meth K 708 "answer_for" 676 := mtB_ok (List.all_eq_true.mp T.ch4 (708, "answer_for", 676) (List.mem_of_getElem? (i := 12) rfl))
theorem Tx.m_Table_shortest_road (T : Tx K mg) : Meth K 708 "shortest_road" 698 := mtB_ok (List.all_eq_true.mp T.ch4 (708, "shortest_road", 698) (List.mem_of_getElem? (i := 13) rfl))
theorem Tx.m_Table_ring_by (T : Tx K mg) : Meth K 708 "ring_by" 705 := mtB_ok (List.all_eq_true.mp T.ch4 (708, "ring_by", 705) (List.mem_of_getElem? (i := 14) rfl))
theorem Tx.m_World_class_picture (T : Tx K mg) : Meth K 1061 "class_picture" 817 := mtB_ok (List.all_eq_true.mp T.ch4 (1061, "class_picture", 817) (List.mem_of_getElem? (i := 15) rfl))
theorem Tx.m_World_look (T : Tx K mg) : Meth K 1061 "look" 832 := mtB_ok (List.all_eq_true.mp T.ch4 (1061, "look", 832) (List.mem_of_getElem? (i := 16) rfl))
theorem Tx.m_World_refresh (T : Tx K mg) : Meth K 1061 "refresh" 839 := mtB_ok (List.all_eq_true.mp T.ch4 (1061, "refresh", 839) (List.mem_of_getElem? (i := 17) rfl))
theorem Tx.m_World_make (T : Tx K mg) : Meth K 1061 "make" 855 := mtB_ok (List.all_eq_true.mp T.ch4 (1061, "make", 855) (List.mem_of_getElem? (i := 18) rfl))
theorem Tx.m_World_look_registration (T : Tx K mg) : Meth K 1061 "look_registration" 876 := mtB_ok (List.all_eq_true.mp T.ch4 (1061, "look_registration", 876) (List.mem_of_getElem? (i := 19) rfl))
theorem Tx.m_World_admit (T : Tx K mg) : Meth K 1061 "admit" 883 := mtB_ok (List.all_eq_true.mp T.ch4 (1061, "admit", 883) (List.mem_of_getElem? (i := 20) rfl))
theorem Tx.names (T : Tx K mg) : PropOf K 1061 "names" 825 824 := prB_ok T.ch5.1
theorem Tx.marks (T : Tx K mg) (H : Hp) : SqT K H 281 [.str "plain", .str "abstract", .str "blocked"] := tupA_ok T.ch5.2.1 H
end
theorem bb_len : bootBuiltins "len" = some (.builtin "len") := by first | exact PyProof.Rows.boot_len | exact PySem.boot_len | exact PySem.Spec.boot_len | decide +kernel
theorem bb_list : bootBuiltins "list" = some (.type "list") := by first | exact PyProof.Rows.boot_list | exact PySem.boot_list | exact PySem.Spec.boot_list | decide +kernel
theorem bb_isinstance : bootBuiltins "isinstance" = some (.builtin "isinstance") := by first | exact PyProof.Rows.boot_isinstance | exact PySem.boot_isinstance | exact PySem.Spec.boot_isinstance | decide +kernel
theorem bb_str : bootBuiltins "str" = some (.type "str") := by first | exact PyProof.Rows.boot_str | exact PySem.boot_str | exact PySem.Spec.boot_str | decide +kernel
theorem bb_all : bootBuiltins "all" = some (.builtin "all") := by first | exact PyProof.Rows.boot_all | exact PySem.boot_all | exact PySem.Spec.boot_all | decide +kernel
theorem bb_any : bootBuiltins "any" = some (.builtin "any") := by first | exact PyProof.Rows.boot_any | exact PySem.boot_any | exact PySem.Spec.boot_any | decide +kernel
theorem bb_tuple : bootBuiltins "tuple" = some (.type "tuple") := by first | exact PyProof.Rows.boot_tuple | exact PySem.boot_tuple | exact PySem.Spec.boot_tuple | decide +kernel
theorem bb_bool : bootBuiltins "bool" = some (.type "bool") := by first | exact PyProof.Rows.boot_bool | exact PySem.boot_bool | exact PySem.Spec.boot_bool | decide +kernel
theorem bb_set : bootBuiltins "set" = some (.type "set") := by first | exact PyProof.Rows.boot_set | exact PySem.boot_set | exact PySem.Spec.boot_set | decide +kernel
theorem bb_enumerate : bootBuiltins "enumerate" = some (.type "enumerate") := by first | exact PyProof.Rows.boot_enumerate | exact PySem.boot_enumerate | exact PySem.Spec.boot_enumerate | decide +kernel
theorem bb_dict : bootBuiltins "dict" = some (.type "dict") := by first | exact PyProof.Rows.boot_dict | exact PySem.boot_dict | exact PySem.Spec.boot_dict | decide +kernel
theorem bb_sorted : bootBuiltins "sorted" = some (.builtin "sorted") := by first | exact PyProof.Rows.boot_sorted | exact PySem.boot_sorted | exact PySem.Spec.boot_sorted | decide +kernel
theorem bb_min : bootBuiltins "min" = some (.builtin "min") := by first | exact PyProof.Rows.boot_min | exact PySem.boot_min | exact PySem.Spec.boot_min | decide +kernel
theorem bb_zip : bootBuiltins "zip" = some (.type "zip") := by first | exact PyProof.Rows.boot_zip | exact PySem.boot_zip | exact PySem.Spec.boot_zip | decide +kernel
theorem bb_max : bootBuiltins "max" = some (.builtin "max") := by first | exact PyProof.Rows.boot_max | exact PySem.boot_max | exact PySem.Spec.boot_max | decide +kernel
theorem bb_abs : bootBuiltins "abs" = some (.builtin "abs") := by first | exact PyProof.Rows.boot_abs | exact PySem.boot_abs | exact PySem.Spec.boot_abs | decide +kernel
theorem bb_range : bootBuiltins "range" = some (.type "range") := by first | exact PyProof.Rows.boot_range | exact PySem.boot_range | exact PySem.Spec.boot_range | decide +kernel
theorem fi_roads_from : fnL[0]? = some d_roads_from := rfl
theorem fi_is_name : fnL[1]? = some d_is_name := rfl
theorem fi_is_clause : fnL[2]? = some d_is_clause := rfl
theorem fi_hook_fault : fnL[3]? = some d_hook_fault := rfl
theorem fi_hook_answer : fnL[4]? = some d_hook_answer := rfl
theorem fi_Entry_init : fnL[5]? = some d_Entry_init := rfl
theorem fi_is_mark : fnL[6]? = some d_is_mark := rfl
theorem fi_look_marks : fnL[7]? = some d_look_marks := rfl
theorem fi_is_sworn : fnL[8]? = some d_is_sworn := rfl
theorem fi_hook_for : fnL[9]? = some d_hook_for := rfl
theorem fi_answer_by_hook : fnL[10]? = some d_answer_by_hook := rfl
theorem fi_subclasses : fnL[11]? = some d_subclasses := rfl
theorem fi_methods_in : fnL[12]? = some d_methods_in := rfl
theorem fi_patterns_in : fnL[13]? = some d_patterns_in := rfl
theorem fi_held_by : fnL[14]? = some d_held_by := rfl
theorem fi_declines : fnL[15]? = some d_declines := rfl
theorem fi_next_in : fnL[16]? = some d_next_in := rfl
theorem fi_led_to : fnL[17]? = some d_led_to := rfl
theorem fi_is_reached : fnL[18]? = some d_is_reached := rfl
theorem fi_outcome_in : fnL[19]? = some d_outcome_in := rfl
theorem fi_has_road : fnL[20]? = some d_has_road := rfl
theorem fi_state_of : fnL[21]? = some d_state_of := rfl
theorem fi_is_needless_in : fnL[22]? = some d_is_needless_in := rfl
theorem fi_needless : fnL[23]? = some d_needless := rfl
theorem fi_kernel : fnL[24]? = some d_kernel := rfl
theorem fi_look_same : fnL[25]? = some d_look_same := rfl
theorem fi_first_difference : fnL[26]? = some d_first_difference := rfl
theorem fi_alike : fnL[27]? = some d_alike := rfl
theorem fi_Cache_init : fnL[28]? = some d_Cache_init := rfl
theorem fi_Cache_refresh : fnL[29]? = some d_Cache_refresh := rfl
theorem fi_can_be_first : fnL[30]? = some d_can_be_first := rfl
theorem fi_merged : fnL[31]? = some d_merged := rfl
theorem fi_look_bases : fnL[32]? = some d_look_bases := rfl
theorem fi_look_hook : fnL[33]? = some d_look_hook := rfl
theorem fi_new_entry : fnL[34]? = some d_new_entry := rfl
theorem fi_Table_init : fnL[35]? = some d_Table_init := rfl
theorem fi_Table_copied : fnL[36]? = some d_Table_copied := rfl
theorem fi_Table_has : fnL[37]? = some d_Table_has := rfl
theorem fi_Table_all_names : fnL[38]? = some d_Table_all_names := rfl
theorem fi_Table_add_class : fnL[39]? = some d_Table_add_class := rfl
theorem fi_Table_add_registration : fnL[40]? = some d_Table_add_registration := rfl
theorem fi_Table_remove_registration : fnL[41]? = some d_Table_remove_registration := rfl
theorem fi_Table_registrations : fnL[42]? = some d_Table_registrations := rfl
theorem fi_Table_is_above : fnL[43]? = some d_Table_is_above := rfl
theorem fi_Table_sworn : fnL[44]? = some d_Table_sworn := rfl
theorem fi_Table_below : fnL[45]? = some d_Table_below := rfl
theorem fi_Table_next_of : fnL[46]? = some d_Table_next_of := rfl
theorem fi_Table_answer_for : fnL[47]? = some d_Table_answer_for := rfl
theorem fi_Table_shortest_road : fnL[48]? = some d_Table_shortest_road := rfl
theorem fi_Table_ring_by : fnL[49]? = some d_Table_ring_by := rfl
theorem fi_World_init : fnL[50]? = some d_World_init := rfl
theorem fi_World_class_picture : fnL[51]? = some d_World_class_picture := rfl
theorem fi_World_names : fnL[52]? = some d_World_names := rfl
theorem fi_World_look : fnL[53]? = some d_World_look := rfl
theorem fi_World_refresh : fnL[54]? = some d_World_refresh := rfl
theorem fi_World_make : fnL[55]? = some d_World_make := rfl
theorem fi_World_look_registration : fnL[56]? = some d_World_look_registration := rfl
theorem fi_World_admit : fnL[57]? = some d_World_admit := rfl
theorem fi_Lbag : fnL[58]? = some d_Lbag := rfl
theorem fi_Ltake : fnL[59]? = some d_Ltake := rfl
theorem fi_Lpick : fnL[60]? = some d_Lpick := rfl
theorem fi_Lmerge : fnL[61]? = some d_Lmerge := rfl
theorem fi_Lnew : fnL[62]? = some d_Lnew := rfl
theorem fi_Lcopy : fnL[63]? = some d_Lcopy := rfl
theorem fi_Lsworn : fnL[64]? = some d_Lsworn := rfl
theorem fi_Lnext : fnL[65]? = some d_Lnext := rfl
theorem fi_Lled : fnL[66]? = some d_Lled := rfl
theorem fi_Lmake : fnL[67]? = some d_Lmake := rfl
theorem fi_Lnew_rule : fnL[68]? = some d_Lnew_rule := rfl
theorem fi_Lclass : fnL[69]? = some d_Lclass := rfl
theorem fi_Ladmits : fnL[70]? = some d_Ladmits := rfl
theorem fi_Ladmit : fnL[71]? = some d_Ladmit := rfl
theorem fi_Lsome_admitted : fnL[72]? = some d_Lsome_admitted := rfl
theorem fi_Ldrawn : fnL[73]? = some d_Ldrawn := rfl
theorem fi_Lmade_in : fnL[74]? = some d_Lmade_in := rfl
theorem fi_Lmade : fnL[75]? = some d_Lmade := rfl
theorem fi_Llisted : fnL[76]? = some d_Llisted := rfl
theorem fi_Lwithout : fnL[77]? = some d_Lwithout := rfl
theorem fi_Lend : fnL[78]? = some d_Lend := rfl
theorem fi_law : fnL[79]? = some d_law := rfl
/-- a module's constant -/
theorem pgl {X : Cx} {x : Str} {v : V} {pos : Pos} (h : ∃ u, X.mg x = some u ∧ RelV v u) (hg : Gl X x) (hd : (x == ("__debug__" : Str)) = false := by decide) : PE X (.Name x pos) (tC v) := by
  obtain ⟨u, h1, h2⟩ := h
  exact pe_glob hg h1 h2 hd
end Sw
set_option linter.all false
set_option maxRecDepth 100000
set_option maxHeartbeats 2000000
/-! The mirror of a world, and how a heap bears it. -/
namespace Sw
open PySem PySem.Spec PyProof.Rows L2 LamX

/-! ### the mirror -/
abbrev Hook := List (List Str × Bool)
structure Cl where
  par : List Str
  own : Bool
  marks : List (Str × Str)
  hook : Option Hook
  passed : Bool
  line : List Str
structure Tb where
  names : List Str
  cl : Str → Cl
  ls : Str → List Str
namespace Tb
def sworn (T : Tb) (n : Str) : Bool := (T.cl n).line.any fun m => (T.cl m).own
def below (T : Tb) (n : Str) : List Str := T.names.filter fun m => (T.cl m).par.contains n
def next (T : Tb) (n : Str) : List Str := if T.sworn n = true then T.ls n ++ (T.below n).filter (fun o => !(T.ls n).contains o) else []
/-- the hook that decides for n, along a list of classes -/
def hookAlong (T : Tb) (n : Str) : List Str → Option Hook
  | [] => none
  | m :: r => match (T.cl m).hook with
    | some h => if m = n ∨ (T.cl m).passed = true then some h else none
    | none => hookAlong T n r
def hookFor (T : Tb) (n : Str) : Option Hook := T.hookAlong n (T.cl n).line
end Tb
def hookAns (h : Hook) (ms : List Str) : Option Bool := (h.find? fun c => c.1.all fun m => ms.contains m).map (·.2)
namespace Tb
def ans (T : Tb) (n : Str) (ms : List Str) : Option Bool := if T.sworn n = true then (T.hookFor n).bind fun h => hookAns h ms else none
def decl (T : Tb) (n : Str) (ms : List Str) : Bool := T.sworn n && decide (T.ans n ms = none)
def above (T : Tb) (n o : Str) : Bool := (T.cl o).line.contains n
def regs (T : Tb) : List (Str × Str) := T.names.flatMap fun n => (T.ls n).map fun o => (n, o)
def NAMES : List Str := ["a", "b", "c", "d", "e", "g", "h", "i", "aa", "ab", "ba", "sworn", "f", "z"]
def METHS : List Str := ["f", "g", "h", "run", "size"]
def MRKS : List Str := ["plain", "abstract", "blocked"]
/-- what the walks need of a table -/
structure Ok (T : Tb) : Prop where
  nd : T.names.Nodup
  sz : T.names.length ≤ 20
  line : ∀ n ∈ T.names, ∀ m ∈ (T.cl n).line, m ∈ T.names
  lsz : ∀ n ∈ T.names, (T.cl n).line.length ≤ 20
  psz : ∀ n ∈ T.names, (T.cl n).par.length ≤ 20
  pin : ∀ n ∈ T.names, ∀ m ∈ (T.cl n).par, m ∈ T.names
  rsz : ∀ n ∈ T.names, (T.ls n).length ≤ 100
  reg : ∀ n ∈ T.names, ∀ m ∈ T.ls n, m ∈ T.names
  lnd : ∀ n ∈ T.names, (T.ls n).Nodup
  nms : ∀ n ∈ T.names, n ∈ NAMES
  mth : ∀ n ∈ T.names, ∀ h, (T.cl n).hook = some h → ∀ c ∈ h, ∀ m ∈ c.1, m ∈ METHS
  mrk : ∀ n ∈ T.names, ∀ p ∈ (T.cl n).marks, p.1 ∈ METHS ∧ p.2 ∈ MRKS
  mkd : ∀ n ∈ T.names, ((T.cl n).marks.map (·.1)).Nodup
  hsz : ∀ n ∈ T.names, ∀ h, (T.cl n).hook = some h → h.length ≤ 20 ∧ ∀ c ∈ h, c.1.length ≤ 20
end Tb

/-! ### values -/
def vS : List Str → List V := List.map V.str
@[simp] theorem vS_len (l : List Str) : (vS l).length = l.length := List.length_map ..
theorem vS_get {l : List Str} {i : Nat} {x : V} (h : (vS l)[i]? = some x) : ∃ z, l[i]? = some z ∧ x = .str z := by
  unfold vS at h
  rw [List.getElem?_map] at h
  cases e : l[i]? with
  | none => rw [e] at h; cases h
  | some z => rw [e] at h; exact ⟨z, rfl, (Option.some.inj h).symm⟩
theorem vS_app (a b : List Str) : vS (a ++ b) = vS a ++ vS b := List.map_append
theorem vS_flat (l : List Str) : (vS l).all flatV = true := by
  rw [List.all_eq_true]
  intro x hx
  obtain ⟨z, _, rfl⟩ := List.mem_map.mp hx
  rfl
theorem inV_vS (x : Str) (l : List Str) : inV (.str x) (vS l) = l.contains x := by
  induction l with
  | nil => rfl
  | cons a l ih =>
    show (eqV (.str a) (.str x) || inV (.str x) (vS l)) = _
    rw [ih, List.contains_cons]
    show ((a == x) || _) = _
    rw [BEq.comm]
def optB : Option Bool → V
  | none => .non
  | some b => .bl b

/-! ### what stands where -/
def ClauseAt (H : Hp) (v : V) (c : List Str × Bool) : Prop := ∃ a m, v = .ref a ∧ H a = some (.tup [.ref m, .bl c.2]) ∧ H m = some (.tup (vS c.1))
def HookAt (H : Hp) (v : V) (h : Hook) : Prop := ∃ a vs, v = .ref a ∧ H a = some (.tup vs) ∧ Paired (ClauseAt H) vs h
def OHook (H : Hp) (v : V) : Option Hook → Prop
  | none => v = .non
  | some h => HookAt H v h
/-- Entry's attributes -/
def fsE (n : Str) (tp : Addr) (own : Bool) (mk : Addr) (hv : V) (ps : Bool) (ln : Addr) : List (Str × V) :=
  [("label", .str n), ("parents", .ref tp), ("own_sworn", .bl own), ("given_marks", .ref mk), ("own_hook", hv), ("passed_on", .bl ps), ("line", .ref ln)]
def kvM (ms : List (Str × Str)) : List (Key × V) := ms.map fun p => (Sum.inr p.1, V.str p.2)
structure EntAt (H : Hp) (e : Addr) (n : Str) (c : Cl) : Prop where
  ex : ∃ dx tp mk hv ln, H e = some (.ins cEntry dx (fsE n tp c.own mk hv c.passed ln)) ∧ H tp = some (.tup (vS c.par)) ∧ H mk = some (.dK (kvM c.marks)) ∧ OHook H hv c.hook ∧ H ln = some (.lst (vS c.line))
def kvR (names : List Str) (ad : Str → Addr) : List (Key × V) := names.map fun n => (Sum.inr n, V.ref (ad n))
/-- the dict of entries -/
def RecAt (H : Hp) (r : Addr) (T : Tb) : Prop := ∃ ad, H r = some (.dK (kvR T.names ad)) ∧ ∀ n ∈ T.names, EntAt H (ad n) n (T.cl n)
def fsT (r nb l : Addr) (mk : Int) : List (Str × V) := [("records", .ref r), ("numbers", .ref nb), ("lists", .ref l), ("made", .int mk)]
def LsAt (H : Hp) (l : Addr) (T : Tb) : Prop := ∃ la, H l = some (.dK (kvR T.names la)) ∧ ∀ n ∈ T.names, H (la n) = some (.lst (vS (T.ls n)))
def NumAt (H : Hp) (nb : Addr) (k : Nat) : Prop := ∃ kv : List (Key × V), H nb = some (.dK kv) ∧ kv.length ≤ k
structure TabAt (H : Hp) (t : Addr) (T : Tb) : Prop where
  ex : ∃ dx r nb l mk, H t = some (.ins cTable dx (fsT r nb l mk)) ∧ RecAt H r T ∧ NumAt H nb T.names.length ∧ LsAt H l T

theorem ClauseAt.mono {H H' : Hp} (e : Le H H') {v : V} {c : List Str × Bool} (h : ClauseAt H v c) : ClauseAt H' v c := by
  obtain ⟨a, m, h1, h2, h3⟩ := h
  exact ⟨a, m, h1, e.at h2, e.at h3⟩
theorem HookAt.mono {H H' : Hp} (e : Le H H') {v : V} {c : Hook} (h : HookAt H v c) : HookAt H' v c := by
  obtain ⟨a, vs, h1, h2, h3⟩ := h
  exact ⟨a, vs, h1, e.at h2, Paired.mapP h3 fun _ _ q => q.mono e⟩
theorem OHook.mono {H H' : Hp} (e : Le H H') {v : V} : ∀ {c : Option Hook}, OHook H v c → OHook H' v c
  | none, h => h
  | some _, h => HookAt.mono e h
theorem EntAt.mono {H H' : Hp} (e : Le H H') {a : Addr} {n : Str} {c : Cl} (h : EntAt H a n c) : EntAt H' a n c := by
  obtain ⟨dx, tp, mk, hv, ln, h1, h2, h3, h4, h5⟩ := h.ex
  exact ⟨dx, tp, mk, hv, ln, e.at h1, e.at h2, e.at h3, h4.mono e, e.at h5⟩
theorem RecAt.mono {H H' : Hp} (e : Le H H') {r : Addr} {T : Tb} (h : RecAt H r T) : RecAt H' r T := by
  obtain ⟨ad, h1, h2⟩ := h
  exact ⟨ad, e.at h1, fun n hn => (h2 n hn).mono e⟩
theorem LsAt.mono {H H' : Hp} (e : Le H H') {r : Addr} {T : Tb} (h : LsAt H r T) : LsAt H' r T := by
  obtain ⟨ad, h1, h2⟩ := h
  exact ⟨ad, e.at h1, fun n hn => e.at (h2 n hn)⟩
theorem NumAt.mono {H H' : Hp} (e : Le H H') {r : Addr} {k : Nat} (h : NumAt H r k) : NumAt H' r k := by
  obtain ⟨kv, h1, h2⟩ := h
  exact ⟨kv, e.at h1, h2⟩
theorem TabAt.mono {H H' : Hp} (e : Le H H') {t : Addr} {T : Tb} (h : TabAt H t T) : TabAt H' t T := by
  obtain ⟨dx, r, nb, l, mk, h1, h2, h3, h4⟩ := h.ex
  exact ⟨dx, r, nb, l, mk, e.at h1, h2.mono e, h3.mono e, h4.mono e⟩

/-! ### a dict by names -/
theorem valV_kv {names : List Str} {f : Str → V} {n : Str} (h : n ∈ names) : valV (names.map fun n => ((Sum.inr n : Key), f n)) (Sum.inr n) = some (f n) := by
  induction names with
  | nil => cases h
  | cons a l ih =>
    by_cases e : a = n
    · subst e; exact valV_pos rfl
    · rw [List.map_cons, valV_neg (fun q => e (Sum.inr.inj q))]
      rcases List.mem_cons.mp h with q | q
      · exact absurd q.symm e
      · exact ih q
theorem valV_kv_no {names : List Str} {f : Str → V} {n : Str} (h : n ∉ names) : valV (names.map fun n => ((Sum.inr n : Key), f n)) (Sum.inr n) = none := by
  induction names with
  | nil => rfl
  | cons a l ih =>
    rw [List.map_cons, valV_neg (fun q => h (by rw [Sum.inr.inj q]; exact List.mem_cons_self))]
    exact ih fun q => h (List.mem_cons_of_mem _ q)
/-- reading a dict that may be locked -/
theorem dget_kv {H : Hp} {d : Addr} {names : List Str} {f : Str → V} {n : Str} (h : Rd H d (.dK (names.map fun n => ((Sum.inr n : Key), f n)))) (hn : n ∈ names) : DGet H d (.str n) (some (f n)) :=
  .inl ⟨_, Sum.inr n, h, rfl, (valV_kv hn).symm⟩

/-! ### fields -/
section
variable {n : Str} {tp mk ln r nb l : Addr} {own ps : Bool} {hv : V} {i : Int}
theorem fsE_label : (fsE n tp own mk hv ps ln).lookup ("label" : Str) = some (.str n) := by kernel_rfl
theorem fsE_parents : (fsE n tp own mk hv ps ln).lookup ("parents" : Str) = some (.ref tp) := by kernel_rfl
theorem fsE_own : (fsE n tp own mk hv ps ln).lookup ("own_sworn" : Str) = some (.bl own) := by kernel_rfl
theorem fsE_marks : (fsE n tp own mk hv ps ln).lookup ("given_marks" : Str) = some (.ref mk) := by kernel_rfl
theorem fsE_hook : (fsE n tp own mk hv ps ln).lookup ("own_hook" : Str) = some hv := by kernel_rfl
theorem fsE_passed : (fsE n tp own mk hv ps ln).lookup ("passed_on" : Str) = some (.bl ps) := by kernel_rfl
theorem fsE_line : (fsE n tp own mk hv ps ln).lookup ("line" : Str) = some (.ref ln) := by kernel_rfl
theorem fsT_records : (fsT r nb l i).lookup ("records" : Str) = some (.ref r) := by kernel_rfl
theorem fsT_numbers : (fsT r nb l i).lookup ("numbers" : Str) = some (.ref nb) := by kernel_rfl
theorem fsT_lists : (fsT r nb l i).lookup ("lists" : Str) = some (.ref l) := by kernel_rfl
theorem fsT_made : (fsT r nb l i).lookup ("made" : Str) = some (.int i) := by kernel_rfl
end
end Sw
set_option linter.all false
set_option maxRecDepth 100000
set_option maxHeartbeats 2000000
/-! Comprehensions over names. -/
namespace Sw
open PySem PySem.Spec PyProof.Rows L2 LamX

theorem range_getD {α : Type} (l : List α) (d : α) : (List.range l.length).map (fun i => l.getD i d) = l := by
  apply List.ext_getElem
  · simp
  · intro i h1 h2
    simp [h2]
theorem filter_range {α β : Type} (l : List α) (d : α) (p : α → Bool) (v : α → β) : ((List.range l.length).filter fun i => p (l.getD i d)).map (fun i => v (l.getD i d)) = (l.filter p).map v := by
  conv => rhs; rw [← range_getD l d]
  rw [List.filter_map, List.map_map]
  rfl
/-- what gives names one by one -/
def YS (l : List Str) : Nat → Hp → V → Hp → Prop := fun i H x H' => H' = H ∧ ∃ z, l[i]? = some z ∧ x = .str z
theorem ws_list {K : PySem.W.Frag} {a : Addr} {l : List Str} : Walk (Itl K a) l.length (fun H => SqL K H a (vS l)) (YS l) := by
  have w := walk_list (K := K) (a := a) (xs := vS l)
  rw [vS_len] at w
  exact w.mono (fun _ h => h) fun i H x H' _ _ y => ⟨y.1, vS_get y.2⟩
theorem ws_tup {K : PySem.W.Frag} {a : Addr} {l : List Str} : Walk (Itt K a) l.length (fun H => SqT K H a (vS l)) (YS l) := by
  have w := walk_tup (K := K) (a := a) (xs := vS l)
  rw [vS_len] at w
  exact w.mono (fun _ h => h) fun i H x H' _ _ y => ⟨y.1, vS_get y.2⟩
theorem ws_keys {d : Addr} {o : Obj} {l : List Str} {f : Str → V} : Walk (Itk d o (l.map fun n => ((Sum.inr n : Key), f n))) l.length (fun H => H d = some (.frz o (.dK (l.map fun n => ((Sum.inr n : Key), f n))))) (YS l) := by
  have w := walk_keys (d := d) (o := o) (kvs := l.map fun n => ((Sum.inr n : Key), f n))
  rw [List.length_map] at w
  refine w.mono (fun _ h => h) fun i H x H' _ _ y => ⟨y.1, ?_⟩
  obtain ⟨_, k, v, h1, h2⟩ := y
  rw [List.getElem?_map] at h1
  cases e : l[i]? with
  | none => rw [e] at h1; cases h1
  | some z =>
    rw [e] at h1
    cases h1
    exact ⟨z, rfl, h2⟩
section
variable {J : It} {G : Hp → Prop} {l : List Str} {g : TG} {tt : L2.TT} {te : TE} {vs : List Nat} {σ : St} {H1 : Hp} {D : Addr} {Qd : Hp → Prop}
/-- [v z for z in l if p z], its values told outright -/
theorem lc_S (w : Walk J l.length G (YS l)) (p : Str → Bool) (v : Str → V) (hn : l.length ≤ 100000) (hD : H1 D = none) (hG : ∀ H', Le H1 H' → G H')
    (turn : ∀ z ∈ l, ∀ Hb, Le H1 Hb → (∃ ys, Hb D = some (.lst ys)) → ∀ (QF : Hp → Prop) (QT : V → Hp → Prop), (∀ H2, Le Hb H2 → p z = false → QF H2) → (∀ H2, Le Hb H2 → p z = true → QT (v z) H2) →
      g (.str z) (wipe σ vs) Hb fun σ2 H2 => wipe σ2 vs = wipe σ vs ∧ tt σ2 H2 fun b H3 => if b = true then te σ2 H3 QT else QF H3)
    (done : ∀ H2, Le H1 H2 → H2 D = some (.lst ((l.filter p).map v)) → Qd H2) :
    ∃ W : Nat → Nat → Hp → Prop, (∃ m, W 0 m (upd H1 D (.lst []))) ∧ ∀ i m H, W i m H →
      (J.stop i H ∧ Qd H) ∨ (J.go i H ∧ ∃ Nx : Hp → Prop, (∀ H', Nx H' → ∃ m', m' < m ∧ W (i + 1) m' H') ∧ ∀ x H', J.yld i H x H' → g x (wipe σ vs) H' fun σ2 H2 => wipe σ2 vs = wipe σ vs ∧ tt σ2 H2 fun b H3 =>
        if b = true then te σ2 H3 fun y H4 => ∃ acc, H4 D = some (.lst acc) ∧ acc.length < sizeLine ∧ Nx (upd H4 D (.lst (acc ++ [y]))) else Nx H3) := by
  refine lc_go w (fun _ i y _ => y = v (l.getD i Str.empty)) (fun i => p (l.getD i Str.empty)) hn hD (fun i H x H' y => by rw [y.1]; exact Le.refl _) hG (fun _ _ _ _ _ h => h) ?_ ?_
  · rintro i x Ha Hb hi e1 e2 ⟨_, z, hz, rfl⟩ hd QF QT h1 h2
    have e : l.getD i Str.empty = z := by rw [List.getD_eq_getElem?_getD, hz]; rfl
    refine turn z (List.mem_of_getElem? hz) Hb e2 hd QF QT (fun H2 e3 hp => h1 H2 e3 (by rw [e]; exact hp)) (fun H2 e3 hp => h2 _ H2 e3 (by rw [e]; exact hp) (by rw [e]))
  · intro ys H2 e1 h1 h2
    have q := h2.val
    rw [filter_range l Str.empty p v] at q
    rw [q] at h1
    exact done H2 e1 h1
theorem filter_yes {α : Type} (l : List α) : l.filter (fun _ => true) = l := List.filter_eq_self.mpr fun _ _ => rfl
/-- [v z for z in l] -/
theorem lc_A (w : Walk J l.length G (YS l)) (v : Str → V) (hn : l.length ≤ 100000) (hD : H1 D = none) (hG : ∀ H', Le H1 H' → G H')
    (turn : ∀ z ∈ l, ∀ Hb, Le H1 Hb → (∃ ys, Hb D = some (.lst ys)) → ∀ (QF : Hp → Prop) (QT : V → Hp → Prop), (∀ H2, Le Hb H2 → QT (v z) H2) →
      g (.str z) (wipe σ vs) Hb fun σ2 H2 => wipe σ2 vs = wipe σ vs ∧ tt σ2 H2 fun b H3 => if b = true then te σ2 H3 QT else QF H3)
    (done : ∀ H2, Le H1 H2 → H2 D = some (.lst (l.map v)) → Qd H2) :
    ∃ W : Nat → Nat → Hp → Prop, (∃ m, W 0 m (upd H1 D (.lst []))) ∧ ∀ i m H, W i m H →
      (J.stop i H ∧ Qd H) ∨ (J.go i H ∧ ∃ Nx : Hp → Prop, (∀ H', Nx H' → ∃ m', m' < m ∧ W (i + 1) m' H') ∧ ∀ x H', J.yld i H x H' → g x (wipe σ vs) H' fun σ2 H2 => wipe σ2 vs = wipe σ vs ∧ tt σ2 H2 fun b H3 =>
        if b = true then te σ2 H3 fun y H4 => ∃ acc, H4 D = some (.lst acc) ∧ acc.length < sizeLine ∧ Nx (upd H4 D (.lst (acc ++ [y]))) else Nx H3) :=
  lc_S w (fun _ => true) v hn hD hG (fun z hz Hb e hd QF QT _ h2 => turn z hz Hb e hd QF QT fun H2 e2 => h2 H2 e2 rfl) fun H2 e h => done H2 e (by rw [filter_yes] at h; exact h)
/-- the same with new things as elements: R tells of each -/
theorem lc_SP (w : Walk J l.length G (YS l)) (p : Str → Bool) (R : Addr → Str → V → Hp → Prop) (hn : l.length ≤ 100000) (hD : H1 D = none) (hG : ∀ H', Le H1 H' → G H') (hR : ∀ z y H H', LeX D H H' → R D z y H → R D z y H')
    (turn : ∀ z ∈ l, ∀ Hb, Le H1 Hb → (∃ ys, Hb D = some (.lst ys)) → ∀ (QF : Hp → Prop) (QT : V → Hp → Prop), (∀ H2, Le Hb H2 → p z = false → QF H2) → (∀ y H2, Le Hb H2 → p z = true → R D z y H2 → QT y H2) →
      g (.str z) (wipe σ vs) Hb fun σ2 H2 => wipe σ2 vs = wipe σ vs ∧ tt σ2 H2 fun b H3 => if b = true then te σ2 H3 QT else QF H3)
    (done : ∀ ys H2, Le H1 H2 → H2 D = some (.lst ys) → Paired (fun z y => R D z y H2) (l.filter p) ys → Qd H2) :
    ∃ W : Nat → Nat → Hp → Prop, (∃ m, W 0 m (upd H1 D (.lst []))) ∧ ∀ i m H, W i m H →
      (J.stop i H ∧ Qd H) ∨ (J.go i H ∧ ∃ Nx : Hp → Prop, (∀ H', Nx H' → ∃ m', m' < m ∧ W (i + 1) m' H') ∧ ∀ x H', J.yld i H x H' → g x (wipe σ vs) H' fun σ2 H2 => wipe σ2 vs = wipe σ vs ∧ tt σ2 H2 fun b H3 =>
        if b = true then te σ2 H3 fun y H4 => ∃ acc, H4 D = some (.lst acc) ∧ acc.length < sizeLine ∧ Nx (upd H4 D (.lst (acc ++ [y]))) else Nx H3) := by
  refine lc_go w (fun D i y H => R D (l.getD i Str.empty) y H) (fun i => p (l.getD i Str.empty)) hn hD (fun i H x H' y => by rw [y.1]; exact Le.refl _) hG (fun i y H H' e h => hR _ y H H' e h) ?_ ?_
  · rintro i x Ha Hb hi e1 e2 ⟨_, z, hz, rfl⟩ hd QF QT h1 h2
    have e : l.getD i Str.empty = z := by rw [List.getD_eq_getElem?_getD, hz]; rfl
    refine turn z (List.mem_of_getElem? hz) Hb e2 hd QF QT (fun H2 e3 hp => h1 H2 e3 (by rw [e]; exact hp)) (fun y H2 e3 hp r => h2 _ H2 e3 (by rw [e]; exact hp) (by rw [e]; exact r))
  · intro ys H2 e1 h1 h2
    refine done ys H2 e1 h1 ?_
    have go : ∀ {is : List Nat} {r : List V}, Paired (fun i y => R D (l.getD i Str.empty) y H2) is r → Paired (fun z y => R D z y H2) (is.map fun i => l.getD i Str.empty) r := by
      intro is r h
      induction h with
      | nil => exact .nil
      | cons h t ih => exact .cons h ih
    have q := go h2
    have fr := filter_range l Str.empty p id
    rw [List.map_id] at fr
    simp only [id_eq] at fr
    rw [fr] at q
    exact q
end
end Sw
set_option linter.all false
set_option maxRecDepth 100000
set_option maxHeartbeats 2000000
/-! The layer's rules with the written part named outright (so that a comprehension's reading does not speak of its block). -/
namespace Sw
open PySem PySem.Spec PyProof.Rows L2 LamX
section
variable (K : PySem.W.Frag) {X : Cx} {e o value tg l : Expr} {f : Str} {pos pos' : Pos} {ta tv tl : TE}
theorem wfld (he : PE X e ta) (hb : attributeBase e f X.env (eval e X.env) = eval e X.env) (hK : X.K = K := by rfl) : PE X (.Attribute e f pos) (tFld K ta f) := by
  subst hK; exact pe_fld he hb
theorem wsfld (ha : PE X o ta) (hv : PE X value tv) (hs : swapsWith value (some (.Attribute o f pos')) pos.line X.env = pure false) (hK : X.K = K := by rfl) : PS X (.Assign [.Attribute o f pos'] value pos) (sFld K ta tv f) := by
  subst hK; exact ps_fld ha hv hs
theorem wsfldaug {op : Operator} {rd : V → V → Hp → VK → Prop} (ha : PE X o ta) (hv : PE X value tv) (hop : InOp X op rd) (hK : X.K = K := by rfl) : PS X (.AugAssign (.Attribute o f pos') op value pos) (sFldAug K ta tv rd f) := by
  subst hK; exact ps_fldaug ha hv hop
theorem wtup {es : List Expr} {k : Nat} {t : TGs} {n : Nat} (hc : X.calm = true) (h : PGs X es t) (hn : (assignEach es X.env).length = n := by rfl) (hst : (assignEach es X.env).findIdx? (·.1) = none := by rfl) (hK : X.K = K := by rfl) : PG X (.Tuple es k pos) (gTup K n t) := by
  subst hK; exact pg_tup hc h hn hst
theorem wlist (hl : PE X l tl) (hK : X.K = K := by rfl) : PI X tg l (iList K tl) := by subst hK; exact pi_list hl
theorem witup (hl : PE X l tl) (hK : X.K = K := by rfl) : PI X tg l (iTup K tl) := by subst hK; exact pi_tup hl
theorem wixl (hK : X.K = K := by rfl) : IxR X (rIxL K) := by subst hK; exact ix_list
theorem wixt (hK : X.K = K := by rfl) : IxR X (rIxT K) := by subst hK; exact ix_tup
theorem wsll (hK : X.K = K := by rfl) : SlR X (rSlL K) := by subst hK; exact sl_list
theorem wslt (hK : X.K = K := by rfl) : SlR X (rSlA K) := by subst hK; exact sl_tupA
theorem win (hK : X.K = K := by rfl) : OpR X (compareOp .In) (rIn K false) := by subst hK; exact op_in_seq
theorem wnin (hK : X.K = K := by rfl) : OpR X (compareOp .NotIn) (rIn K true) := by subst hK; exact op_notIn_seq
theorem wcat (hK : X.K = K := by rfl) : OpR X (binaryOp .Add) (rCatA K) := by subst hK; exact op_catA
theorem weq (hu : X.A.units + 64 < cLine) (hK : X.K = K := by rfl) : OpR X (compareOp .Eq) (rEqD K) := by subst hK; exact op_eqD hu
theorem wne (hu : X.A.units + 64 < cLine) (hK : X.K = K := by rfl) : OpR X (compareOp .NotEq) (rNeD K) := by subst hK; exact op_neD hu
def rLenS (K : PySem.W.Frag) : List V → Hp → VK → Prop := fun xs H Q => ∃ p ys, xs = [.ref p] ∧ (SqL K H p ys ∨ SqT K H p ys) ∧ Q (.int ys.length) H
def rListS (K : PySem.W.Frag) : List V → Hp → VK → Prop := fun xs H Q => ∃ p ys, xs = [.ref p] ∧ (SqL K H p ys ∨ SqT K H p ys) ∧ ∀ l, H l = none → Q (.ref l) (upd H l (.lst ys))
def rTupS (K : PySem.W.Frag) : List V → Hp → VK → Prop := fun xs H Q => ∃ p ys, xs = [.ref p] ∧ ((SqL K H p ys ∧ ∀ l, H l = none → Q (.ref l) (upd H l (.tup ys))) ∨ (SqT K H p ys ∧ Q (.ref p) H))
theorem wlen (hK : X.K = K := by rfl) : CallR X (.builtin "len") (rLenS K) := by subst hK; exact call_len_seq
theorem wlistof (hK : X.K = K := by rfl) : CallR X (.type "list") (rListS K) := by subst hK; exact call_list_of
theorem wtupof (hK : X.K = K := by rfl) : CallR X (.type "tuple") (rTupS K) := by subst hK; exact call_tuple_of
theorem wany (hc : X.calm = true) (hK : X.K = K := by rfl) : CallR X (.builtin "any") (rAny K) := by subst hK; exact cr_any hc
theorem wall (hc : X.calm = true) (hK : X.K = K := by rfl) : CallR X (.builtin "all") (rAll K) := by subst hK; exact cr_all hc
theorem wisi (hK : X.K = K := by rfl) : CallR X (.builtin "isinstance") (rIsi K) := by subst hK; exact call_isi
theorem wisiT (hK : X.K = K := by rfl) : CallR X (.builtin "isinstance") (rIsiT K) := by subst hK; exact call_isiT
theorem wapp {o e : Expr} {apos cpos : Pos} {to te : TE} (ho : PE X o to) (he : PE X e te) (hbase : attributeBase o "append" X.env (eval o X.env) = eval o X.env := by rfl)
    (hfew : ((backTo cpos (starEach [e] X.env)).all (fun x => !x.1) && (backToKw cpos (keywordEach [] X.env)).all (fun x => x.1.isSome)
      && decide (([e] : List Expr).length + ([] : List Keyword).length + (if ([] : List Keyword).isEmpty then 0 else 1) < 30)) = true := by rfl)
    (hline : (apos.endLine == cpos.line) = true := by rfl) (hs : starEach [e] X.env = (false, eval e X.env) :: starEach [] X.env := by rfl) (hplain : (backTo cpos (starEach [] X.env)).any (·.1) = false := by rfl) (hK : X.K = K := by rfl) :
    PE X (.Call (.Attribute o "append" apos) [e] [] cpos) (tBM K "list" rAppend to (tCons te tNil)) := by
  subst hK
  exact pe_bm PySem.F.plainAttrs_list PySem.F.slot_list_append PySem.F.type_list_append mt_append ho (pa_cons he pa_nil hs) hbase hfew hline hs hplain
end
end Sw
set_option linter.all false
set_option maxRecDepth 100000
set_option maxHeartbeats 4000000
/-! SwF1: hooks, swornness, subclasses. Terms printed by gen_term.py. -/
namespace Sw
open PySem PySem.Spec PyProof.Rows L2 LamX
section
variable {P : Program} {w : World} {K : PySem.W.Frag} {mg : Str → Option Value} {base : Heap}


def spHookAnswer : Sp := fun vs H Q _ => ∃ hv h mt ms, vs = [hv, .ref mt] ∧ HookAt H hv h ∧ H mt = some (.tup (vS ms)) ∧ h.length ≤ 20 ∧ (∀ c ∈ h, c.1.length ≤ 20) ∧ ∀ H', Le H H' → Q (optB (hookAns h ms)) H'
def spSworn : Sp := fun vs H Q _ => ∃ r T n, vs = [.ref r, .str n] ∧ RecAt H r T ∧ T.Ok ∧ n ∈ T.names ∧ ∀ H', Le H H' → Q (.bl (T.sworn n)) H'
def spHookFor : Sp := fun vs H Q _ => ∃ r T n, vs = [.ref r, .str n] ∧ RecAt H r T ∧ T.Ok ∧ n ∈ T.names ∧ ∀ v H', Le H H' → OHook H' v (T.hookFor n) → Q v H'
def spAnsBy : Sp := fun vs H Q _ => ∃ r T n mt ms, vs = [.ref r, .str n, .ref mt] ∧ RecAt H r T ∧ T.Ok ∧ n ∈ T.names ∧ H mt = some (.tup (vS ms)) ∧ ∀ H', Le H H' → Q (optB (T.ans n ms)) H'
theorem along_mem {U : Tb} {n : Str} {h : Hook} : ∀ {l : List Str}, U.hookAlong n l = some h → ∃ m ∈ l, (U.cl m).hook = some h
  | [], q => by cases q
  | a :: l, q => by
    unfold Tb.hookAlong at q
    split at q
    · split at q
      · exact ⟨a, List.mem_cons_self, by rw [← q]; assumption⟩
      · cases q
    · obtain ⟨m, h1, h2⟩ := along_mem q
      exact ⟨m, List.mem_cons_of_mem _ h1, h2⟩
theorem Tb.Ok.hookFor_sz {U : Tb} (ok : U.Ok) {n : Str} {h : Hook} (hn : n ∈ U.names) (q : U.hookFor n = some h) : h.length ≤ 20 ∧ ∀ c ∈ h, c.1.length ≤ 20 := by
  obtain ⟨m, h1, h2⟩ := along_mem q
  exact ok.hsz m (ok.line n hn m h1) h h2
def spBelow : Sp := fun vs H Q _ => ∃ r T n, vs = [.ref r, .str n] ∧ RecAt H r T ∧ T.Ok ∧ ∀ p H', Le H H' → H p = none → H' p = some (.lst (vS (T.below n))) → Q (.ref p) H'
theorem find_take {h : Hook} {p : List Str × Bool → Bool} {i : Nat} {c : List Str × Bool} (hc : h[i]? = some c) (hn : ∀ x ∈ h.take i, p x = false) : (p c = true → h.find? p = some c) ∧ (p c = false → ∀ x ∈ h.take (i + 1), p x = false) := by
  have hi : i < h.length := (List.getElem?_eq_some_iff.mp hc).1
  have e : h.take (i + 1) = h.take i ++ [c] := by
    rw [List.take_add_one, hc]
    rfl
  refine ⟨fun q => ?_, fun q x hx => ?_⟩
  · rw [← List.take_append_drop i h, List.find?_append]
    have h1 : (h.take i).find? p = none := List.find?_eq_none.mpr fun x hx => by rw [hn x hx]; exact Bool.false_ne_true
    rw [h1, Option.none_or]
    have h2 : h.drop i = c :: h.drop (i + 1) := by
      rw [List.drop_eq_getElem_cons hi, (List.getElem?_eq_some_iff.mp hc).2]
    rw [h2, List.find?_cons, q]
  · rw [e] at hx
    rcases List.mem_append.mp hx with z | z
    · exact hn x z
    · rw [List.mem_singleton.mp z]; exact q
theorem Paired.at {α β : Type} {R : α → β → Prop} : ∀ {l : List α} {r : List β} {i : Nat} {a : α}, Paired R l r → l[i]? = some a → ∃ b, r[i]? = some b ∧ R a b
  | _, _, i, _, .nil, h => by simp at h
  | _, _, 0, _, .cons h t, e => by simp at e; subst e; exact ⟨_, rfl, h⟩
  | _, _, i + 1, _, .cons h t, e => by
    obtain ⟨b, h1, h2⟩ := Paired.at (i := i) t (by simpa using e)
    exact ⟨b, by simpa using h1, h2⟩

theorem sc_hook_answer : FnScope ["hook", "methods", "wanted", "answer", "method"] ["hook", "methods"] (defScope s_hook_answer) := ⟨rfl, rfl, rfl, by decide +kernel, rfl, by decide +kernel, by decide +kernel⟩
theorem ok_hook_answer (T : Tx K mg)  : Cal P w K mg base "hook_answer" 1 ["hook", "methods"] spHookAnswer := by
  obtain ⟨fd, F⟩ := T.fn _ fi_hook_answer
  have G : FnOk P w K mg base CX0 1 d_hook_answer.f fd ["hook", "methods"] spHookAnswer := by
    refine F.ok sc_hook_answer (fun vs H Q E h => ?_) (fun cdv A outer s H vs Q E hr h => ⟨_, PSs.nox (X := cxOf CX0 P w K mg base _ _ _ _ cdv A outer s H E) ((pss_cons (ps_for PassesOwn.never rfl (witup K (pv 0)) (wtup K rfl (pgs_cons (pg_name (i := 2) sc_hook_answer.nd rfl (Or.inl rfl)) (pgs_cons (pg_name (i := 3) sc_hook_answer.nd rfl (Or.inl rfl)) pgs_nil))) (pss_one (ps_if (pt_val (pe_callB (wall K rfl) (by rfl) T.f_all bb_all (pa_cons (pe_lc (own := [("method", 4)]) rfl sc_hook_answer.nd (witup K (pv 2)) (blkOk_by (N := ["hook", "methods", "wanted", "answer", "method"]) (sc := defScope s_hook_answer) (own := [("method", 4)]) (by decide +kernel)) (fun _ _ _ _ _ => (pg_name (i := 4) sc_hook_answer.nd rfl (Or.inl rfl))) (fun _ _ _ _ _ => pts_nil) (fun _ _ _ _ _ => (pe_cmpR (win K) (pv 4) (pv 1) rfl))) pa_nil))) (pss_one (ps_ret (pv 3))) pss_nil)))
    (pss_one (ps_ret pe_non)))), ?_⟩)
    · obtain ⟨_, _, _, _, rfl, _⟩ := h
      rfl
    · obtain ⟨hv, h, mt, ms, rfl, ⟨a, xs, rfl, ha, hp⟩, hm, hz, hcz, k⟩ := h
      have hl := Paired.length hp
      refine ⟨_, rfl, a, rfl, ⟨_, SqT.of ha⟩, for_it (walk_tup (K := K) (a := a) (xs := xs)) (fun i σ H' => Le H H' ∧ (∃ v2 v3 v4, σ = [some (.ref a), some (.ref mt), v2, v3, v4]) ∧ ∀ c ∈ h.take i, (c.1.all fun m => ms.contains m) = false)
        ⟨Le.refl _, ⟨none, none, none, rfl⟩, by simp⟩ (fun i σ H' _ p => SqT.of (p.1.at ha)) ?_ ?_⟩
      · rintro i x σ Ha Hb hi ⟨e, ⟨v2, v3, v4, rfl⟩, hno⟩ ⟨rfl, hx⟩
        obtain ⟨c, hc, b, m, rfl, hb, hcm⟩ := Paired.at hp hx
        obtain ⟨hf1, hf2⟩ := find_take (p := fun c => c.1.all fun m => ms.contains m) hc hno
        have hcz' := hcz c (List.mem_of_getElem? hc)
        refine ⟨b, _, rfl, SqT.of (e.at hb), rfl, _, _, rfl, _, _, rfl, rfl, ?_⟩
        refine ⟨_, rfl, m, rfl, ⟨_, SqT.of (e.at hcm)⟩, fun D hD => ?_⟩
        refine lc_A (ws_tup (K := K) (a := m) (l := c.1)) (fun z => .bl (ms.contains z)) (by omega) hD (fun H' e2 => SqT.of (e2.at (e.at hcm))) ?_ ?_
        · intro z hzm Hc e2 _ QF QT h2
          refine ⟨rfl, _, rfl, _, rfl, mt, _, rfl, .inr (SqT.of (e2.at (e.at hm))), rfl, vS_flat _, ?_⟩
          rw [inV_vS]
          exact h2 Hc (Le.refl _)
        · intro H2 e2 hD2
          refine ⟨D, c.1.map (fun z => ms.contains z), rfl, SqL.of (by rw [hD2, List.map_map]; rfl), _, rfl, ?_⟩
          have ea : (c.1.map fun z => ms.contains z).all id = c.1.all fun m => ms.contains m := by rw [List.all_map]; rfl
          rw [ea]
          cases hq : c.1.all fun m => ms.contains m with
          | true =>
            refine iteT ⟨_, rfl, ?_⟩
            have q := k H2 (e.trans e2)
            unfold hookAns at q
            rw [hf1 hq] at q
            exact q
          | false => exact iteF ⟨e.trans e2, ⟨_, _, _, rfl⟩, hf2 hq⟩
      · rintro σ H' ⟨e, ⟨v2, v3, v4, rfl⟩, hno⟩
        have q := k H' e
        have en : h.find? (fun c => c.1.all fun m => ms.contains m) = none := List.find?_eq_none.mpr fun c hc => by
          rw [hno c (by rw [hl, List.take_length]; exact hc)]; exact Bool.false_ne_true
        unfold hookAns at q
        rw [en] at q
        exact q
  exact ⟨⟨_, fd, G, T.g_hook_answer, F.kp, F.bindsN (ps := ["hook", "methods"]) fun _ _ _ _ _ _ us hl => match us, hl with | [_, _], _ => rfl⟩⟩

theorem sc_is_sworn : FnScope ["table", "name", "one"] ["table", "name"] (defScope s_is_sworn) := ⟨rfl, rfl, rfl, by decide +kernel, rfl, by decide +kernel, by decide +kernel⟩
theorem ok_is_sworn (T : Tx K mg)  : Cal P w K mg base "is_sworn" 1 ["table", "name"] spSworn := by
  obtain ⟨fd, F⟩ := T.fn _ fi_is_sworn
  have G : FnOk P w K mg base CX0 1 d_is_sworn.f fd ["table", "name"] spSworn := by
    refine F.ok sc_is_sworn (fun vs H Q E h => ?_) (fun cdv A outer s H vs Q E hr h => ⟨_, PSs.nox (X := cxOf CX0 P w K mg base _ _ _ _ cdv A outer s H E) ((pss_one (ps_ret (pe_callB (wany K rfl) (by rfl) T.f_any bb_any (pa_cons (pe_lc (own := [("one", 2)]) rfl sc_is_sworn.nd (wlist K (wfld K (pe_dget (hu_of hr) (pv 0) (pv 1) (fun _ _ => rfl)) rfl)) (blkOk_by (N := ["table", "name", "one"]) (sc := defScope s_is_sworn) (own := [("one", 2)]) (by decide +kernel)) (fun _ _ _ _ _ => (pg_name (i := 2) sc_is_sworn.nd rfl (Or.inl rfl))) (fun _ _ _ _ _ => pts_nil) (fun _ _ _ _ _ => (wfld K (pe_dget (hu_of hr) (pv 0) (pv 2) (fun _ _ => rfl)) rfl))) pa_nil))))), ?_⟩)
    · obtain ⟨_, _, _, rfl, _⟩ := h
      rfl
    · obtain ⟨r, U, n, rfl, ⟨ad, hr0, hE⟩, ok, hn, k⟩ := h
      obtain ⟨dx, tp, mk, hv, ln, he, _, _, _, hln⟩ := (hE n hn).ex
      refine ⟨_, rfl, _, rfl, r, _, rfl, dget_kv (.inl hr0) hn, _, cEntry, dx, _, _, rfl, he, T.cl_Entry, T.n_Entry_line, fsE_line, ln, rfl, ⟨_, SqL.of hln⟩, fun D hD => ?_⟩
      refine lc_A (ws_list (K := K) (a := ln) (l := (U.cl n).line)) (fun m => .bl (U.cl m).own) (by have := ok.lsz n hn; omega) hD (fun H' e => SqL.of (e.at hln)) ?_ ?_
      · intro z hz Hb e _ QF QT h2
        have hzn := ok.line n hn z hz
        obtain ⟨dx2, _, _, _, _, he2, _⟩ := (hE z hzn).ex
        refine ⟨rfl, _, rfl, _, rfl, r, _, rfl, dget_kv (.inl (e.at hr0)) hzn, _, cEntry, dx2, _, _, rfl, e.at he2, T.cl_Entry, T.n_Entry_own_sworn, fsE_own, ?_⟩
        exact h2 Hb (Le.refl _)
      · intro H2 e hD2
        refine ⟨D, ((U.cl n).line.map fun m => (U.cl m).own), rfl, SqL.of (by rw [hD2, List.map_map]; rfl), ?_⟩
        rw [List.any_map]
        exact k H2 e
  exact ⟨⟨_, fd, G, T.g_is_sworn, F.kp, F.bindsN (ps := ["table", "name"]) fun _ _ _ _ _ _ us hl => match us, hl with | [_, _], _ => rfl⟩⟩


theorem along_none {U : Tb} {n : Str} : ∀ {l : List Str}, (∀ m ∈ l, (U.cl m).hook = none) → U.hookAlong n l = none
  | [], _ => rfl
  | a :: l, h => by
    unfold Tb.hookAlong
    rw [h a List.mem_cons_self]
    exact along_none fun m hm => h m (List.mem_cons_of_mem _ hm)
theorem along_at {U : Tb} {n m : Str} {hk : Hook} : ∀ {l : List Str} {i : Nat}, l[i]? = some m → (∀ x ∈ l.take i, (U.cl x).hook = none) → (U.cl m).hook = some hk →
    U.hookAlong n l = if m = n ∨ (U.cl m).passed = true then some hk else none
  | [], i, h, _, _ => by simp at h
  | a :: l, 0, h, _, hm => by
    simp at h
    subst h
    unfold Tb.hookAlong
    rw [hm]
  | a :: l, i + 1, h, hn, hm => by
    unfold Tb.hookAlong
    rw [hn a (by simp)]
    exact along_at (i := i) (by simpa using h) (fun x hx => hn x (by simp [hx])) hm
theorem take_snoc {α : Type} {l : List α} {i : Nat} {a : α} (h : l[i]? = some a) : l.take (i + 1) = l.take i ++ [a] := by
  rw [List.take_add_one, h]
  rfl

theorem sc_hook_for : FnScope ["table", "name", "one", "entry"] ["table", "name"] (defScope s_hook_for) := ⟨rfl, rfl, rfl, by decide +kernel, rfl, by decide +kernel, by decide +kernel⟩
theorem ok_hook_for (T : Tx K mg)  : Cal P w K mg base "hook_for" 1 ["table", "name"] spHookFor := by
  obtain ⟨fd, F⟩ := T.fn _ fi_hook_for
  have G : FnOk P w K mg base CX0 1 d_hook_for.f fd ["table", "name"] spHookFor := by
    refine F.ok sc_hook_for (fun vs H Q E h => ?_) (fun cdv A outer s H vs Q E hr h => ⟨_, PSs.nox (X := cxOf CX0 P w K mg base _ _ _ _ cdv A outer s H E) ((pss_cons (ps_for PassesOwn.never rfl (wlist K (wfld K (pe_dget (hu_of hr) (pv 0) (pv 1) (fun _ _ => rfl)) rfl)) (pg_name (i := 2) sc_hook_for.nd rfl (Or.inl rfl)) (pss_cons (ps_set (i := 3) sc_hook_for.nd rfl (Or.inl rfl) (pe_dget (hu_of hr) (pv 0) (pv 2) (fun _ _ => rfl)))
    (pss_one (ps_if (pt_cmpR op_notN (wfld K (pv 3) rfl) pe_non (nomark _)) (pss_one (ps_ret (pe_ifExp (PW.pt (pw_or (pt_cmpR op_eq (pv 2) (pv 1) (nomark _)) (pw_or1 (pt_val (wfld K (pv 3) rfl))))) (wfld K (pv 3) rfl) pe_non))) pss_nil))))
    (pss_one (ps_ret pe_non)))), ?_⟩)
    · obtain ⟨_, _, _, rfl, _⟩ := h
      rfl
    · obtain ⟨r, U, n, rfl, ⟨ad, hr0, hE⟩, ok, hn, k⟩ := h
      obtain ⟨dx, tp, mk, hv, ln, he, _, _, _, hln⟩ := (hE n hn).ex
      refine ⟨_, rfl, _, rfl, r, _, rfl, dget_kv (.inl hr0) hn, _, cEntry, dx, _, _, rfl, he, T.cl_Entry, T.n_Entry_line, fsE_line, ln, rfl, ⟨_, SqL.of hln⟩,
        for_it (ws_list (K := K) (a := ln) (l := (U.cl n).line)) (fun i σ H' => Le H H' ∧ (∃ v2 v3, σ = [some (.ref r), some (.str n), v2, v3]) ∧ ∀ m ∈ (U.cl n).line.take i, (U.cl m).hook = none) ⟨Le.refl _, ⟨none, none, rfl⟩, by simp⟩ (fun i σ H' _ p => SqL.of (p.1.at hln)) ?_ ?_⟩
      · rintro i x σ Ha Hb hi ⟨e, ⟨v2, v3, rfl⟩, hno⟩ ⟨rfl, m, hm, rfl⟩
        have hmn := ok.line n hn m (List.mem_of_getElem? hm)
        obtain ⟨dx2, tp2, mk2, hv2, ln2, he2, _, _, hk2, _⟩ := (hE m hmn).ex
        refine ⟨_, rfl, _, rfl, r, _, rfl, dget_kv (.inl (e.at hr0)) hmn, ?_⟩
        refine ⟨_, rfl, _, cEntry, dx2, _, _, rfl, e.at he2, T.cl_Entry, T.n_Entry_own_hook, fsE_hook, rfl, _, rfl, ?_⟩
        cases hq : (U.cl m).hook with
        | none =>
          rw [hq] at hk2
          cases hk2
          refine iteF ⟨e, ⟨_, _, rfl⟩, fun x hx => ?_⟩
          rw [take_snoc hm] at hx
          rcases List.mem_append.mp hx with z | z
          · exact hno x z
          · rw [List.mem_singleton.mp z]; exact hq
        | some hk =>
          have ea := along_at (n := n) hm hno hq
          rw [hq] at hk2
          have hk3 : HookAt Hb hv2 hk := hk2.mono e
          have hnn : decide (hv2 = V.non) = false := by
            obtain ⟨a, _, rfl, _⟩ := hk3
            rfl
          rw [hnn]
          refine iteT ⟨_, rfl, _, rfl, rfl, _, rfl, ?_⟩
          by_cases em : m = n
          · rw [decide_eq_true (show V.str m = V.str n by rw [em])]
            refine ⟨_, rfl, _, cEntry, dx2, _, _, rfl, e.at he2, T.cl_Entry, T.n_Entry_own_hook, fsE_hook, ?_⟩
            refine k _ _ e ?_
            show OHook Hb hv2 (U.hookAlong n (U.cl n).line)
            rw [ea, if_pos (.inl em)]
            exact hk3
          · rw [decide_eq_false (show ¬ V.str m = V.str n from fun q => em (V.str.inj q))]
            refine iteF ⟨_, rfl, _, cEntry, dx2, _, _, rfl, e.at he2, T.cl_Entry, T.n_Entry_passed_on, fsE_passed, _, rfl, ?_⟩
            cases hpq : (U.cl m).passed with
            | true =>
              refine iteT ⟨_, rfl, _, cEntry, dx2, _, _, rfl, e.at he2, T.cl_Entry, T.n_Entry_own_hook, fsE_hook, ?_⟩
              refine k _ _ e ?_
              show OHook Hb hv2 (U.hookAlong n (U.cl n).line)
              rw [ea, if_pos (.inr hpq)]
              exact hk3
            | false =>
              refine iteF (k .non _ e ?_)
              show OHook Hb _ (U.hookAlong n (U.cl n).line)
              rw [ea, if_neg (by rw [hpq]; rintro (z | z); exact em z; cases z)]
              rfl
      · rintro σ H' ⟨e, ⟨v2, v3, rfl⟩, hno⟩
        refine k .non _ e ?_
        show OHook H' _ (U.hookAlong n (U.cl n).line)
        rw [along_none (by rw [List.take_length] at hno; exact hno)]
        rfl
  exact ⟨⟨_, fd, G, T.g_hook_for, F.kp, F.bindsN (ps := ["table", "name"]) fun _ _ _ _ _ _ us hl => match us, hl with | [_, _], _ => rfl⟩⟩

theorem sc_answer_by_hook : FnScope ["table", "name", "methods", "hook"] ["table", "name", "methods"] (defScope s_answer_by_hook) := ⟨rfl, rfl, rfl, by decide +kernel, rfl, by decide +kernel, by decide +kernel⟩
theorem ok_answer_by_hook (T : Tx K mg) (c_is_sworn : Cal P w K mg base "is_sworn" 1 ["table", "name"] spSworn) (c_hook_for : Cal P w K mg base "hook_for" 1 ["table", "name"] spHookFor) (c_hook_answer : Cal P w K mg base "hook_answer" 1 ["hook", "methods"] spHookAnswer) : Cal P w K mg base "answer_by_hook" 2 ["table", "name", "methods"] spAnsBy := by
  obtain ⟨fd, F⟩ := T.fn _ fi_answer_by_hook
  have G : FnOk P w K mg base CX0 2 d_answer_by_hook.f fd ["table", "name", "methods"] spAnsBy := by
    refine F.ok sc_answer_by_hook (fun vs H Q E h => ?_) (fun cdv A outer s H vs Q E hr h => ⟨_, PSs.nox (X := cxOf CX0 P w K mg base _ _ _ _ cdv A outer s H E) ((pss_cons (ps_set (i := 3) sc_answer_by_hook.nd rfl (Or.inl rfl) (pe_ifExp (pt_val (pc c_is_sworn hr rfl (pa_cons (pv 0) (pa_cons (pv 1) pa_nil)))) (pc c_hook_for hr rfl (pa_cons (pv 0) (pa_cons (pv 1) pa_nil))) pe_non))
    (pss_one (ps_ret (pe_ifExp (pt_cmpR op_isN (pv 3) pe_non (nomark _)) pe_non (pc c_hook_answer hr rfl (pa_cons (pv 3) (pa_cons (pv 2) pa_nil)))))))), ?_⟩)
    · obtain ⟨_, _, _, _, _, rfl, _⟩ := h
      rfl
    · obtain ⟨r, U, n, mt, ms, rfl, R, ok, hn, hm, k⟩ := h
      refine ⟨_, rfl, _, rfl, r, U, n, rfl, R, ok, hn, fun H1 e1 => ⟨_, rfl, ?_⟩⟩
      cases hs : U.sworn n with
      | false =>
        refine iteF ?_
        show gName 3 _ _ _ _
        refine ⟨_, rfl, rfl, _, rfl, iteT ?_⟩
        have q := k H1 e1
        unfold Tb.ans at q
        rw [hs] at q
        exact q
      | true =>
        refine iteT ⟨_, rfl, _, rfl, r, U, n, rfl, R.mono e1, ok, hn, fun v H2 e2 hv => ?_⟩
        show gName 3 _ _ _ _
        refine ⟨_, rfl, rfl, _, rfl, ?_⟩
        cases hq : U.hookFor n with
        | none =>
          rw [hq] at hv
          cases hv
          refine iteT ?_
          have q := k H2 (e1.trans e2)
          unfold Tb.ans at q
          rw [hs, hq] at q
          exact q
        | some hk =>
          rw [hq] at hv
          have hn2 : decide (v = V.non) = false := by
            obtain ⟨a, _, rfl, _⟩ := hv
            rfl
          rw [hn2]
          have hz := ok.hookFor_sz hn hq
          refine iteF ⟨_, rfl, _, rfl, v, hk, mt, ms, rfl, hv, (e1.trans e2).at hm, hz.1, hz.2, fun H3 e3 => ?_⟩
          have q := k H3 ((e1.trans e2).trans e3)
          unfold Tb.ans at q
          rw [hs, hq] at q
          exact q
  exact ⟨⟨_, fd, G, T.g_answer_by_hook, F.kp, F.bindsN (ps := ["table", "name", "methods"]) fun _ _ _ _ _ _ us hl => match us, hl with | [_, _, _], _ => rfl⟩⟩

theorem sc_subclasses : FnScope ["table", "name", "one"] ["table", "name"] (defScope s_subclasses) := ⟨rfl, rfl, rfl, by decide +kernel, rfl, by decide +kernel, by decide +kernel⟩
theorem ok_subclasses (T : Tx K mg)  : Cal P w K mg base "subclasses" 1 ["table", "name"] spBelow := by
  obtain ⟨fd, F⟩ := T.fn _ fi_subclasses
  have G : FnOk P w K mg base CX0 1 d_subclasses.f fd ["table", "name"] spBelow := by
    refine F.ok sc_subclasses (fun vs H Q E h => ?_) (fun cdv A outer s H vs Q E hr h => ⟨_, PSs.nox (X := cxOf CX0 P w K mg base _ _ _ _ cdv A outer s H E) ((pss_one (ps_ret (pe_lock (pe_lc (own := [("one", 2)]) rfl sc_subclasses.nd (pi_keys (pv 0)) (blkOk_by (N := ["table", "name", "one"]) (sc := defScope s_subclasses) (own := [("one", 2)]) (by decide +kernel)) (fun _ _ _ _ _ => (pg_name (i := 2) sc_subclasses.nd rfl (Or.inl rfl))) (fun _ _ _ _ _ => (pts_one (pt_cmpR (win K) (pv 1) (wfld K (pe_dget (hu_of hr) (pv 0) (pv 2) (fun _ _ => rfl)) rfl) rfl))) (fun _ _ _ _ _ => (pv 2))))))), ?_⟩)
    · obtain ⟨_, _, _, rfl, _⟩ := h
      rfl
    · obtain ⟨r, U, n, rfl, ⟨ad, hr0, hE⟩, ok, k⟩ := h
      refine ⟨r, .dK (kvR U.names ad), hr0, trivial, fun od => ⟨_, rfl, r, od, rfl, .inl ⟨_, upd_same, fun D hD => ?_⟩⟩⟩
      refine lc_S ws_keys (fun m => (U.cl m).par.contains n) V.str (by have := ok.sz; omega) hD (fun H' e => e.at upd_same) ?_ ?_
      · intro z hz Hb e _ QF QT h1 h2
        obtain ⟨dx2, tp, _, _, _, he2, htp, _⟩ := (hE z hz).ex
        refine ⟨rfl, _, rfl, _, rfl, _, rfl, r, _, rfl, dget_kv (.inr ⟨od, e.at upd_same⟩) hz, _, cEntry, dx2, _, _, rfl, e.at (lock_at hr0 he2 (by intro q; cases q)), T.cl_Entry, T.n_Entry_parents, fsE_parents, tp, _, rfl, .inr (SqT.of (e.at (lock_at hr0 htp (by intro q; cases q)))), rfl, vS_flat _, ?_⟩
        rw [inV_vS]
        cases hq : (U.cl z).par.contains n with
        | true => exact ⟨_, rfl, iteT ⟨_, rfl, h2 Hb (Le.refl _) hq⟩⟩
        | false => exact ⟨_, rfl, iteF (h1 Hb (Le.refl _) hq)⟩
      · intro H2 e hD2
        have nD : D ≠ r := by rintro rfl; rw [upd_same] at hD; cases hD
        refine ⟨e.at upd_same, ?_⟩
        exact k D _ (lock_le hr0 rfl e) (by rw [← hD]; exact (upd_ne nD).symm) (by rw [upd_ne nD]; exact hD2)
  exact ⟨⟨_, fd, G, T.g_subclasses, F.kp, F.bindsN (ps := ["table", "name"]) fun _ _ _ _ _ _ us hl => match us, hl with | [_, _], _ => rfl⟩⟩

end
end Sw
set_option linter.all false
set_option maxRecDepth 100000
set_option maxHeartbeats 2000000
/-! A lambda of one parameter, handed to a def as its second argument. -/
namespace Sw
open PySem PySem.Spec PyProof.Rows L2 LamX

structure LamP (x : Str) (sc scope : Scope) : Prop where
  kind : scope.kind = .function
  co : scope.isCoroutine = false
  gen : scope.isGenerator = false
  par : scope.names.lookup x = some .local
  own : ∀ y ∈ scope.names, y.2 ≠ .cell ∧ (y.2 = .local → y.1 = x)
  free : ∀ y ∈ scope.names, y.2 = .free → sc.names.lookup y.1 = some .cell ∨ sc.names.lookup y.1 = some .free
def lamPB (x : Str) (sc scope : Scope) : Bool :=
  decide (scope.kind = .function) && !scope.isCoroutine && !scope.isGenerator && decide (scope.names.lookup x = some .local) && scope.names.all fun y => !decide (y.2 = .cell) && (!decide (y.2 = .local) || decide (y.1 = x)) && (!decide (y.2 = .free) || decide (sc.names.lookup y.1 = some .cell) || decide (sc.names.lookup y.1 = some .free))
theorem lamP_by {x : Str} {sc scope : Scope} (h : lamPB x sc scope = true) : LamP x sc scope := by
  unfold lamPB at h
  simp only [Bool.and_eq_true, Bool.or_eq_true, Bool.not_eq_true', decide_eq_true_eq, decide_eq_false_iff_not, List.all_eq_true] at h
  obtain ⟨⟨⟨⟨h1, h2⟩, h3⟩, h5⟩, h4⟩ := h
  refine ⟨h1, h2, h3, h5, fun y hy => ⟨(h4 y hy).1.1, fun e => ?_⟩, fun y hy e => ?_⟩
  · rcases (h4 y hy).1.2 with z | z
    · exact absurd e z
    · exact z
  · rcases (h4 y hy).2 with (z | z) | z
    · exact absurd e z
    · exact .inl z
    · exact .inr z
theorem LamP.has {X : Cx} {x : Str} {scope : Scope} (L : LamP x X.env.scope scope) (ok : X.Ok) : ∀ y ∈ scope.names, y.2 = .free → ∃ c, X.env.cells.lookup y.1 = some c := fun y hy e => by
  rcases L.free y hy e with k | k
  · exact ok.has _ (.inl k)
  · exact ok.has _ (.inr k)
/-- the context of the lambda's body, entered at s from the frames outer; nothing is let out -/
def lamC (X : Cx) (A : Around) (outer : List Env) (s : Shared) (H : Hp) (scope : Scope) (f c' : Addr) : Cx where
  prog := X.prog
  w := X.w
  K := X.K
  mg := X.mg
  base := X.base
  A := A.deeper (lamEnv X scope s.heap.objs.size f c')
  N := X.N
  s_0 := s
  H_0 := H
  env := lamEnv X scope s.heap.objs.size f c'
  outer := outer
  stack := lamEnv X scope s.heap.objs.size f c' :: outer
  ex := []
  fn := fun _ => false
  calm := true
  pn := []
  xe := fun _ _ => False
section
variable {X : Cx} {pins : List (Addr × Obj)} {σ : L2.St} {H HZ : Hp} {s s1 : Shared}
theorem lam_start1 {A : Around} {outer : List Env} {scope : Scope} {x : Str} {j : Nat} {v : V} {u : Value} {f c' : Addr} {h₁ : Heap} {tk : Nat} (I : Inv X pins σ H s) (L : LamP x X.env.scope scope) (hj : X.N[j]? = some x) (hND : X.N.Nodup) (rv : RelV v u) (e0 : Env0 X.prog X.w X.K X.mg X.base A outer s1 HZ) (hd : A.handled = none)
    (un : Un (frs X.stack) [] H HZ s.heap s1.heap) (hns : h₁.Ns s1.heap.objs.size fun y => ([(x, u)] : List (Str × Value)).reverse.lookup y) (kp : ∀ b o, s1.heap.get? b = some o → h₁.get? b = some o) :
    Inv (lamC X A outer s1 HZ scope f c') [] (σ.set j (some v)) HZ { s1 with heap := h₁, toks := tk } := by
  have hfree := L.has I.ok
  have cm : ∀ {y c}, (cloFrom X.env.cells scope.names []).lookup y = some c → X.env.cells.lookup y = some c := fun {y c} e => by
    rcases cloFrom_mem (PySem.mem_of_lookup e) with hm | ⟨h1, h2⟩
    · cases hm
    · obtain ⟨c1, hc⟩ := hfree _ h1 rfl
      have hc : X.env.cells.lookup y = some c1 := hc
      have e2 : c = c1 := by
        rw [h2, hc] <;> rfl
      rw [e2]
      exact hc
  have look : ∀ {y}, scope.names.lookup y = some .free → ∃ c, (cloFrom X.env.cells scope.names []).lookup y = some c := fun {y} hl => by
    have hy : (y, NameKind.free) ∈ scope.names := PySem.mem_of_lookup hl
    exact mem_lookup (cloFrom_has (cells := X.env.cells) (acc := []) hy)
  have cellK : ∀ {c : Addr} {v : Option Value}, H c = none → s.heap.IsCell c v → h₁.IsCell c v := fun {c v} n ⟨o, ho, hd⟩ => by
    obtain ⟨sl, q⟩ := un.any ho n (by simp)
    exact ⟨_, kp _ _ q, hd⟩
  have noA : ∀ b : Addr, b ∉ (lamC X A outer s1 HZ scope f c').ex := fun b z => absurd (show b ∈ ([] : List Addr) from z) (by simp)
  refine ⟨⟨e0.mod, L.kind, rfl, rfl, Nat.le_refl _, fun y z c e1 e2 => I.ok.inj y z c (cm e1) (cm e2), fun y hy => ?_, fun y c z _ => ?_, fun _ => hd, Around.frames_deeper e0.frames, .inr ⟨rfl, rfl⟩, fun b z => absurd z (noA b), e0.bs, e0.bsz, fun b _ _ => noA b,
      fun b z => absurd z (noA b), e0.funs, e0.frf⟩,
    rfl, e0.bare, Un.kept kp, ⟨_, hns, fun i y v' e1 e2 e3 => ?_⟩, fun y c e => ?_, e0.hok.fresh (Nat.le_refl _), fun y c e => ?_, fun q hq => absurd (show q ∈ ([] : List (Addr × Obj)) ++ [] from hq) (by simp), e0.hok.kept kp, by rw [List.length_set]; exact I.len⟩
  · have hy : scope.names.lookup y = some .cell ∨ scope.names.lookup y = some .free := hy
    rcases hy with hy | hy
    · exact absurd rfl (L.own _ (PySem.mem_of_lookup hy)).1
    · exact look hy
  · have z : false = true := z
    cases z
  · have e3 : Vis scope y := e3
    have e1 : X.N[i]? = some y := e1
    by_cases hx : y = x
    · subst hx
      have ij : i = j := by
        have hi : i < X.N.length := (List.getElem?_eq_some_iff.mp e1).1
        have hj' : j < X.N.length := (List.getElem?_eq_some_iff.mp hj).1
        exact (List.getElem?_inj hi hND).mp (e1.trans hj.symm)
      subst ij
      have hl : i < σ.length := by rw [I.len]; exact (List.getElem?_eq_some_iff.mp e1).1
      rw [List.getElem?_set_self hl] at e2
      cases e2
      exact ⟨u, rv, .inl ⟨L.par, by simp [List.lookup]⟩⟩
    · have ij : j ≠ i := fun z => hx (by rw [← z, hj] at e1; exact (Option.some.inj e1).symm)
      rw [List.getElem?_set_ne ij] at e2
      rcases e3 with k | k | k
      · exact absurd ((L.own _ (PySem.mem_of_lookup k)).2 rfl) hx
      · exact absurd rfl (L.own _ (PySem.mem_of_lookup k)).1
      · obtain ⟨m, hn, hl⟩ := I.loc
        have hvis : Vis X.env.scope y := (L.free _ (PySem.mem_of_lookup k) rfl).elim (fun k => .inr (.inl k)) (fun k => .inr (.inr k))
        obtain ⟨w', r, q⟩ := hl i y v' e1 e2 hvis
        obtain ⟨c2, h2⟩ := look k
        refine ⟨w', r, .inr ⟨.inr k, c2, h2, ?_⟩⟩
        have c1 := cm h2
        rcases q with ⟨k', _⟩ | ⟨_, c3, e', z⟩
        · have k' : X.env.scope.names.lookup y = some .local := k'
          rcases L.free _ (PySem.mem_of_lookup k) rfl with k2 | k2 <;> rw [show X.env.scope.names.lookup y = _ from k2] at k' <;> cases k'
        · rw [c1] at e'
          cases e'
          exact cellK (I.freeC y _ c1) z
  · obtain ⟨w', z⟩ := I.cell y c (cm e)
    exact ⟨w', cellK (I.freeC y c (cm e)) z⟩
  · obtain ⟨v, o, ho, hd⟩ := I.cell y c (cm e)
    exact un.free c o ho (I.freeC y c (cm e)) (by simp)
/-- the def that got the lambda calls it: its slot i holds f, its slot h the argument -/
def tAct (i h : Nat) (f c' : Addr) (q : Str) (tl : V → Hp → VK → Prop) : TE := fun σ H Q => σ[i]? = some (some (.ref f)) ∧ ∃ v, σ[h]? = some (some v) ∧ H c' = some (CodeO c' q) ∧ tl v H Q
abbrev cxG (X : Cx) (Ng : List Str) (qg : Str) (sg : Scope) (g : Addr) (cdg : Value) (s : Shared) (H : Hp) : Cx := (cxOf CX0 X.prog X.w X.K X.mg X.base Ng qg sg g cdg X.A X.stack s H E0).nox
theorem pe_act1 {Ng : List Str} {qg x a b : Str} {sg : Scope} {g f c' : Addr} {cdg pm ctv : Value} {params : Arguments} {body : Expr} {scope : Scope} {k i h j : Nat} {tb : TE} {p1 p2 p3 : Pos}
    (I : Inv X pins σ H s) (L : LamP x X.env.scope scope) (hj : X.N[j]? = some x) (hND : X.N.Nodup) (hf : s.heap.get? f = some (PySem.W.kla_obj "<lambda>" (X.env.qual ++ "<lambda>") params body scope (cloFrom X.env.cells scope.names []) pm c' ctv)) (hfn : H f = none) (hfr : f ∉ frs X.stack)
    (hbind : ∀ u, bindArgs (PySem.W.kla_fn "<lambda>" (X.env.qual ++ "<lambda>") params body scope (cloFrom X.env.cells scope.names []) pm (.ref c') ctv) ⟨[u], []⟩ = pure [(x, u)])
    (hr : Room (k + 1) (X.A.deeper (envOfC qg sg s.heap.objs.size g cdg)))
    (hbody : ∀ (A : Around) (outer : List Env) (s : Shared) (H : Hp), Room k (A.deeper (lamEnv X scope s.heap.objs.size f c')) → PE (lamC X A outer s H scope f c') body tb)
    (hN : Ng[i]? = some a) (hv : Vis sg a) (hNb : Ng[h]? = some b) (hvb : Vis sg b) (hd : (a == ("__debug__" : Str)) = false := by decide) (hcd : (a == ("__classdict__" : Str)) = false := by decide) (hdb : (b == ("__debug__" : Str)) = false := by decide) (hcdb : (b == ("__classdict__" : Str)) = false := by decide) :
    PE (cxG X Ng qg sg g cdg s H) (.Call (.Name a p1) [.Name b p2] [] p3) (tAct i h f c' (X.env.qual ++ "<lambda>") fun v H' Q' => tb (σ.set j (some v)) H' Q') := by
  refine ⟨fun pinsZ sZ σZ HZ Q IZ h => ?_⟩
  obtain ⟨hs, v, hv2, hc, ht⟩ := h
  refine wpAny_Call_Name_kw (thn ((pe_var (pos := p1) (i := i) hN hv hd hcd).run pinsZ sZ σZ HZ (fun v H1 => v = .ref f ∧ H1 = HZ) IZ ⟨.ref f, hs, rfl, rfl⟩) fun u s1 ⟨v1, H1, I1, r1, q1⟩ => ?_)
  obtain ⟨ev, eH⟩ := q1
  subst ev
  rw [eH] at I1
  obtain rfl : u = Value.ref f := r1
  have ofZ : ∀ {s1 : Shared} {HZ : Hp} {σ1 : L2.St}, Inv (cxG X Ng qg sg g cdg s H) pinsZ σ1 HZ s1 → s1.heap.get? f = some (PySem.W.kla_obj "<lambda>" (X.env.qual ++ "<lambda>") params body scope (cloFrom X.env.cells scope.names []) pm c' ctv) := fun I1 => I1.base.keep f _ hf hfn hfr (fun z => nomatch (show f ∈ ([] : List Addr) from z))
  refine PySem.W.callWith_F (first := []) ⟨_, _, _, _, ofZ I1⟩ ?_ (by rfl) (by rfl)
  refine thn ((pa_cons (X := cxG X Ng qg sg g cdg s H) (pe_var (pos := p2) (i := h) hNb hvb hdb hcdb) pa_nil).run p3 pinsZ s1 σZ HZ (fun vs H2 => vs = [v] ∧ H2 = HZ) I1 ⟨v, hv2, rfl, rfl⟩) fun us s2 ⟨vs, H2, I2, r, q1, q2⟩ => ?_
  subst q1
  rw [q2] at I2
  obtain ⟨u, rfl, rv⟩ : ∃ u, us = [u] ∧ RelV v u := by
    cases r with
    | cons rv rn =>
      cases rn
      exact ⟨_, rfl, rv⟩
  have of2 := ofZ I2
  refine ⟨⟨_, _, _, _, of2⟩, ?_⟩
  have un : Un (frs X.stack) [] H HZ s.heap s2.heap := I2.base
  obtain ⟨⟨oc, vs, t, hoc, hdc, hvc⟩, _, _⟩ := I2.hok c' _ hc
  have rc : codeAny (model X.prog X.w) (X.A.deeper (envOfC qg sg s.heap.objs.size g cdg)) (.call (.ref f) ⟨[u], []⟩) (CR CX0 (envOfC qg sg s.heap.objs.size g cdg :: X.stack) X.prog X.w HZ s2 Q E0) s2 := by
    refine PySem.W.kla_callFunE hr.depth of2 rfl L.co L.gen rfl ⟨c', oc, vs, t, rfl, hoc, hdc, hvc⟩ ?_
    rw [hbind]
    refine wpAny_pure (wpAny_newFunctionEnv (fun y hy => (L.own y hy).1) (fun y hy => by rw [List.mem_singleton.mp hy]; exact L.par) (fun h₁ hns hsb => ⟨I2.nolimit.fresh _ hsb, ?_⟩) L.kind)
    show codeAny _ _ (.expr body (lamEnv X scope s2.heap.objs.size f c')) _ _
    have kp : ∀ b o, s2.heap.get? b = some o → h₁.get? b = some o := fun b o e => hsb.extBut b o (Nat.ne_of_lt (Heap.lt_size e)) (Heap.get?_push_of_some _ e)
    have J : Inv (lamC X (X.A.deeper (envOfC qg sg s.heap.objs.size g cdg)) (envOfC qg sg s.heap.objs.size g cdg :: X.stack) s2 HZ scope f c') [] (σ.set j (some v)) HZ { s2 with heap := h₁, toks := s2.toks + ([(x, u)] : List (Str × Value)).length } :=
      lam_start1 I L hj hND rv I2.env0 hr.hd un hns kp
    refine PySem.W.kla_codeExpr (wpAny_mono ((hbody _ _ s2 HZ (hr.deeper _)).run [] _ _ HZ Q J ht) (fun v s' hq => ?_) fun e s' hq => hq.elim)
    obtain ⟨w', H', J', rv, q⟩ := hq
    exact ⟨w', H', J'.os, J'.bare, J'.base, J'.hok, rv, q⟩
  refine wpAny_call (codeAny_mono rc fun r s' hq => ?_)
  cases r with
  | error e => exact (show False from hq).elim
  | ok fl =>
    cases fl with
    | ret u => exact I2.after hq
    | next => exact False.elim hq
    | brk => exact False.elim hq
    | cont => exact False.elim hq
end
/-- what a def makes of the values that it got and of the lambda's reading -/
abbrev TG2 := V → (V → Hp → VK → Prop) → Hp → VK → Prop
def Gives2 (X : Cx) (k : Nat) (Ng : List Str) (x : Str) (sg : Scope) (g : Addr) (cdg : Value) (bg : List Stmt) (a b : Str) (i h : Nat) (q : Str) (TT : TG2) : Prop :=
  ∀ (f c' : Addr) (s : Shared) (H : Hp) (Q : VK) (v : V) (tl : V → Hp → VK → Prop), Room k (X.A.deeper (envOfC x sg s.heap.objs.size g cdg)) →
    (∀ (p1 p2 p3 : Pos), PE (cxG X Ng x sg g cdg s H) (.Call (.Name a p1) [.Name b p2] [] p3) (tAct i h f c' q tl)) → H c' = some (CodeO c' q) → TT v tl H Q →
    ∃ t, PSs (cxG X Ng x sg g cdg s H) bg t ∧ t { nx := fun _ H' => Q .non H', rt := Q } (L2.start Ng [v, .ref f]) H
def tLam1 (j : Nat) (te : TE) (TT : TG2) (t : TE) : TE := fun σ H Q => te σ H fun v H0 => Tabs TBS H0 ∧ ∀ H1, Le H0 H1 → TT v (fun u H' Q' => t (σ.set j (some u)) H' Q') H1 Q
section
variable {X : Cx}
/-- g(e, lambda x: body) -/
theorem pe_lam1 {TT : TG2} {x y a b z : Str} {g c P : Addr} {k i h j : Nat} {pg : Arguments} {bg : List Stmt} {sg : Scope} {dV kV doc pm cdv ct oc : Value} {an od : Option Addr} {osl : Array (Option Value)} {Ng : List Str}
    {params : Arguments} {body e : Expr} {scope : Scope} {te t : TE} {p lpos pos : Pos} (hg : Gl X x) (hm : X.mg x = some (.ref g)) (hk : PySem.W.keepIn X.K (.ref g) = true)
    (lk : X.K.lookup g = some ⟨oc, od, .func (PySem.W.fnOf x x pg bg sg dV kV doc pm an cdv ct), osl⟩) (hcg : PySem.W.codeIn X.K cdv x = true) (hb : L2.Binds X.K (PySem.W.fnOf x x pg bg sg dV kV doc pm an cdv ct) [z, a] []) (Sg : FnScope Ng [z, a] sg)
    (hN : Ng[i]? = some a) (hv : Vis sg a) (hNb : Ng[h]? = some b) (hvb : Vis sg b) (hG : Gives2 X (k + 1) Ng x sg g cdv bg a b i h (X.env.qual ++ "<lambda>") TT)
    (TB : TabB X.base X.mg c P) (hcode : X.env.code = .ref c) (hmT : (P, X.env.qual ++ "<lambda>") ∈ TBS) (hu : ∀ p ∈ TBS, p.1 = P → p.2 = X.env.qual ++ "<lambda>") (hr : Room (k + 2) X.A) (L : LamP y X.env.scope scope) (hj : X.N[j]? = some y) (hND : X.N.Nodup) (hdef : defaultsOf params X.env = ([], []))
    (hbind : ∀ (q : Str) (cl : List (Str × Addr)) (pm cv ctv u : Value), bindArgs (PySem.W.kla_fn "<lambda>" q params body scope cl pm cv ctv) ⟨[u], []⟩ = pure [(y, u)]) (he : PE X e te)
    (hbody : ∀ (A : Around) (outer : List Env) (s : Shared) (H : Hp) (f c' : Addr), Room k (A.deeper (lamEnv X scope s.heap.objs.size f c')) → PE (lamC X A outer s H scope f c') body t)
    (hs : starEach (e :: [.Lambda params body scope lpos]) X.env = (false, eval e X.env) :: starEach [.Lambda params body scope lpos] X.env := by rfl)
    (hdb : (x == ("__debug__" : Str)) = false := by decide) (hd : (a == ("__debug__" : Str)) = false := by decide) (hcd : (a == ("__classdict__" : Str)) = false := by decide) (hdb2 : (b == ("__debug__" : Str)) = false := by decide) (hcdb : (b == ("__classdict__" : Str)) = false := by decide) :
    PE X (.Call (.Name x p) [e, .Lambda params body scope lpos] [] pos) (tLam1 j te TT t) := by
  refine ⟨fun pins s σ H Q I h => ?_⟩
  refine wpAny_Call_Name_kw (ld_glob I hg hm ?_ hdb)
  refine PySem.W.callWith_K (h₀ := X.base) I.ok.mod.kin hk ?_ hs (by rfl)
  rw [hs]
  show wpAny _ _ (spliced ((false, eval e X.env) :: (false, eval (.Lambda params body scope lpos) X.env) :: backTo pos (starEach [] X.env))) _ _ s
  refine Calls.spliced_cons (thn (he.run pins s σ H _ I h) fun u0 s0 ⟨v, H0, I0, rv, hT, h⟩ => ?_)
  refine Calls.spliced_cons (lam_make2 I0 TB hcode hmT hu hT hdef (L.has I0.ok) fun f c' pm' ctv H1 s' I1 eN T1 hf hfn hfr hco => ?_)
  refine Calls.spliced_nil ⟨I1.kIn, ?_⟩
  have rc : codeAny (model X.prog X.w) X.A (.call (.ref g) ⟨[u0, .ref f], []⟩) (CR CX0 X.stack X.prog X.w H1 s' Q E0) s' := by
    refine run_ofS (N := Ng) (ps := [z, a]) (us := [u0, .ref f]) (vs := [v, .ref f]) lk hcg Sg hr I1.env0 (hb s' [u0, .ref f] I1.kIn rfl) (.cons rv (.cons rfl .nil)) rfl fun hr' => ?_
    obtain ⟨t', ht', hq'⟩ := hG f c' s' H1 Q v (fun u H' Q' => t (σ.set j (some u)) H' Q') hr' (fun p1 p2 p3 => pe_act1 I1 L hj hND hf hfn hfr (hbind _ _ _ _ _) hr' (fun A outer s H hr2 => hbody A outer s H f c' hr2) hN hv hNb hvb hd hcd hdb2 hcdb) hco (h H1 ⟨eN, fun _ => T1⟩)
    exact ⟨t', ht'.nox, hq'⟩
  refine wpAny_call (codeAny_mono rc fun r s2 hq => ?_)
  cases r with
  | error e => exact (show False from hq).elim
  | ok fl =>
    cases fl with
    | ret u => exact I1.after hq
    | next => exact False.elim hq
    | brk => exact False.elim hq
    | cont => exact False.elim hq
end
end Sw
/-! The plain law, in the abstract: classes with registrations, roads in held classes, outcomes; leaving out what is needless. -/
namespace Sw
section
variable {α : Type}

/-- roads -/
inductive Rch (S : α → α → Prop) : α → α → Prop
  | refl (x : α) : Rch S x x
  | tail {x y z : α} : Rch S x y → S y z → Rch S x z

theorem Rch.trans {S : α → α → Prop} {x y z : α} (h : Rch S x y) (k : Rch S y z) : Rch S x z := by
  induction k with
  | refl => exact h
  | tail _ s ih => exact .tail ih s
theorem Rch.head {S : α → α → Prop} {x y z : α} (s : S x y) (k : Rch S y z) : Rch S x z :=
  Rch.trans (.tail (.refl x) s) k
theorem Rch.mono {S T : α → α → Prop} {x y : α} (m : ∀ u v, S u v → T u v) (h : Rch S x y) : Rch T x y := by
  induction h with
  | refl => exact .refl x
  | tail _ s ih => exact .tail ih (m _ _ s)
theorem Rch.cases_head {S : α → α → Prop} {x z : α} (h : Rch S x z) : x = z ∨ ∃ y, S x y ∧ Rch S y z := by
  induction h with
  | refl => exact .inl rfl
  | tail h s ih =>
    rcases ih with e | ⟨y, s1, h1⟩
    · subst e; exact .inr ⟨_, s, .refl _⟩
    · exact .inr ⟨y, s1, .tail h1 s⟩
/-- a road that is none without one edge runs through it -/
theorem Rch.uses {S : α → α → Prop} {a b x w : α} (h : Rch S x w) (n : ¬ Rch (fun u v => S u v ∧ ¬ (u = a ∧ v = b)) x w) :
    Rch S x a ∧ S a b ∧ Rch S b w := by
  induction h with
  | refl => exact absurd (.refl x) n
  | @tail y z h s ih =>
    rcases Classical.em (Rch (fun u v => S u v ∧ ¬ (u = a ∧ v = b)) x y) with g | g
    · rcases Classical.em (y = a ∧ z = b) with q | q
      · obtain ⟨q1, q2⟩ := q
        subst q1 q2
        exact ⟨h, s, .refl _⟩
      · exact absurd (.tail g ⟨s, q⟩) n
    · obtain ⟨h1, h2, h3⟩ := ih g
      exact ⟨h1, h2, .tail h3 s⟩

/-- classes: sworn ones, direct subclasses (sub a b: b has the base a), ln z b: z is above b -/
structure Shape (α : Type) where
  sw : α → Prop
  sub : α → α → Prop
  ln : α → α → Prop
structure Shape.Ok (M : Shape α) : Prop where
  up : ∀ z b, M.ln z b ↔ Rch M.sub z b
  anti : ∀ z b, M.ln z b → M.ln b z → z = b
  mono : ∀ z b, M.sub z b → M.sw z → M.sw b

/-- a pattern: who declines, who answers True -/
structure Pat (α : Type) where
  dc : α → Prop
  tr : α → Prop
structure Pat.Ok (M : Shape α) (P : Pat α) : Prop where
  dcs : ∀ x, P.dc x → M.sw x
  trs : ∀ x, P.tr x → M.sw x
  ne : ∀ x, P.dc x → ¬ P.tr x

variable (M : Shape α)
/-- next classes, with the registrations R -/
def nx (R : α → α → Prop) (u v : α) : Prop := M.sw u ∧ (R u v ∨ M.sub u v)
def Acyc (R : α → α → Prop) : Prop := ∀ u v, nx M R u v → ¬ Rch (nx M R) v u
def hld (c d x : α) : Prop := M.ln x c ∨ M.ln x d
def stp (R : α → α → Prop) (D : α → Prop) (c d u v : α) : Prop := D u ∧ nx M R u v ∧ hld M c d v
def Won (P : Pat α) (R : α → α → Prop) (c d : α) : Prop := ∃ x, Rch (stp M R P.dc c d) c x ∧ P.tr x
def Rea (P : Pat α) (R : α → α → Prop) (c d : α) : Prop :=
  (M.sw d ∧ Rch (stp M R P.dc c d) c d ∧ P.dc d) ∨ (¬ M.sw d ∧ ∃ x, Rch (stp M R P.dc c d) c x ∧ ¬ M.sw x ∧ M.ln x d)
def Road (R : α → α → Prop) (c d : α) : Prop := M.sw d ∧ Rch (stp M R (fun _ => True) c d) c d
/-- the same states at c, d -/
def Eqv (Ps : Pat α → Prop) (R R' : α → α → Prop) (c d : α) : Prop :=
  (∀ P, Ps P → P.dc c → (Won M P R c d ↔ Won M P R' c d) ∧ (¬ Won M P R c d → (Rea M P R c d ↔ Rea M P R' c d))) ∧ (Road M R c d ↔ Road M R' c d)
/-- R without a registration -/
def wo (R : α → α → Prop) (a b u v : α) : Prop := R u v ∧ ¬ (u = a ∧ v = b)

variable {M} {Ps : Pat α → Prop} {R R' R1 R2 R3 : α → α → Prop} {a b c d : α}
theorem Shape.Ok.lrefl (k : M.Ok) (x : α) : M.ln x x := (k.up x x).2 (.refl x)
theorem Shape.Ok.ltrans (k : M.Ok) {x y z : α} (h : M.ln x y) (g : M.ln y z) : M.ln x z := (k.up x z).2 (((k.up x y).1 h).trans ((k.up y z).1 g))
theorem Shape.Ok.swl (k : M.Ok) {z b : α} (h : M.ln z b) (s : M.sw z) : M.sw b := by
  have g := (k.up z b).1 h
  induction g with
  | refl => exact s
  | @tail y w h1 e ih => exact k.mono _ _ e (ih ((k.up _ _).2 h1))
/-- a sworn class leads to each class that it is above -/
theorem Shape.Ok.down (k : M.Ok) (R : α → α → Prop) {z b : α} (h : M.ln z b) (s : M.sw z) : Rch (nx M R) z b := by
  have g := (k.up z b).1 h
  induction g with
  | refl => exact .refl _
  | @tail y w h1 e ih => exact .tail (ih ((k.up _ _).2 h1)) ⟨k.swl ((k.up _ _).2 h1) s, .inr e⟩
theorem nx_mono (m : ∀ u v, R u v → R' u v) : ∀ u v, nx M R u v → nx M R' u v := fun u v h => ⟨h.1, h.2.imp (m u v) id⟩
theorem stp_mono (m : ∀ u v, R u v → R' u v) {D : α → Prop} : ∀ u v, stp M R D c d u v → stp M R' D c d u v := fun u v h => ⟨h.1, nx_mono m u v h.2.1, h.2.2⟩
theorem won_mono (m : ∀ u v, R u v → R' u v) {P : Pat α} (h : Won M P R c d) : Won M P R' c d := by
  obtain ⟨x, h1, h2⟩ := h
  exact ⟨x, h1.mono (stp_mono m), h2⟩
theorem rea_mono (m : ∀ u v, R u v → R' u v) {P : Pat α} (h : Rea M P R c d) : Rea M P R' c d := by
  rcases h with ⟨s, h, k⟩ | ⟨s, x, h, k⟩
  · exact .inl ⟨s, h.mono (stp_mono m), k⟩
  · exact .inr ⟨s, x, h.mono (stp_mono m), k⟩
theorem road_mono (m : ∀ u v, R u v → R' u v) (h : Road M R c d) : Road M R' c d := ⟨h.1, h.2.mono (stp_mono m)⟩
theorem wo_le : ∀ u v, wo R a b u v → R u v := fun _ _ h => h.1
theorem Rch.nxs {D : α → Prop} {x y : α} (h : Rch (stp M R D c d) x y) : Rch (nx M R) x y := h.mono fun _ _ s => s.2.1
theorem Acyc.sub (h : Acyc M R) (m : ∀ u v, R' u v → R u v) : Acyc M R' := fun u v e k => h u v (nx_mono m u v e) (k.mono (nx_mono m))
theorem Acyc.anti (h : Acyc M R) {u v : α} (h1 : Rch (nx M R) u v) (h2 : Rch (nx M R) v u) : u = v := by
  rcases h1.cases_head with e | ⟨y, s, g⟩
  · exact e
  · exact absurd (g.trans h2) (h _ _ s)

theorem Eqv.refl : Eqv M Ps R R c d := ⟨fun _ _ _ => ⟨Iff.rfl, fun _ => Iff.rfl⟩, Iff.rfl⟩
theorem Eqv.symm (h : Eqv M Ps R R' c d) : Eqv M Ps R' R c d :=
  ⟨fun P p e => ⟨(h.1 P p e).1.symm, fun n => ((h.1 P p e).2 fun g => n ((h.1 P p e).1.1 g)).symm⟩, h.2.symm⟩
theorem Eqv.trans (h : Eqv M Ps R1 R2 c d) (k : Eqv M Ps R2 R3 c d) : Eqv M Ps R1 R3 c d :=
  ⟨fun P p e => ⟨(h.1 P p e).1.trans (k.1 P p e).1, fun n => ((h.1 P p e).2 n).trans ((k.1 P p e).2 fun g => n ((h.1 P p e).1.2 g))⟩, h.2.trans k.2⟩
/-- between two alike ones -/
theorem Eqv.between (h : Eqv M Ps R1 R3 c d) (m : ∀ u v, R1 u v → R2 u v) (m' : ∀ u v, R2 u v → R3 u v) : Eqv M Ps R2 R3 c d := by
  refine ⟨fun P p e => ⟨⟨won_mono m', fun g => won_mono m ((h.1 P p e).1.2 g)⟩, fun n => ⟨rea_mono m', fun g => ?_⟩⟩, road_mono m', fun g => road_mono m (h.2.2 g)⟩
  exact rea_mono m (((h.1 P p e).2 fun q => n (won_mono m q)).2 g)

/-- M1: leaving out a needless registration keeps every state -/
theorem keep_all (k : M.Ok) (hp : ∀ P, Ps P → P.Ok M) (hab : Eqv M Ps (wo R a b) R a b) (c d : α) : Eqv M Ps (wo R a b) R c d := by
  have lift : ∀ {D : α → Prop} {x y : α}, hld M c d a → hld M c d b → Rch (stp M (wo R a b) D a b) x y → Rch (stp M (wo R a b) D c d) x y := by
    intro D x y ha hb h
    refine h.mono fun u v s => ⟨s.1, s.2.1, ?_⟩
    rcases s.2.2 with q | q
    · rcases ha with ha | ha
      · exact .inl (k.ltrans q ha)
      · exact .inr (k.ltrans q ha)
    · rcases hb with hb | hb
      · exact .inl (k.ltrans q hb)
      · exact .inr (k.ltrans q hb)
  have hc : ∀ {D : α → Prop} {x : α} {R : α → α → Prop}, Rch (stp M R D c d) c x → hld M c d x := by
    intro D x R h
    cases h with
    | refl => exact .inl (k.lrefl _)
    | tail _ s => exact s.2.2
  have main : ∀ P, Ps P → ∀ x, Rch (stp M R P.dc c d) c x → Won M P (wo R a b) c d ∨ Rch (stp M (wo R a b) P.dc c d) c x ∨
      (¬ M.sw x ∧ ∃ u, ¬ M.sw u ∧ M.ln u x ∧ Rch (stp M (wo R a b) P.dc c d) c u) ∨ (M.sw x ∧ ¬ P.dc x ∧ ¬ P.tr x) := by
    intro P pp x h
    induction h with
    | refl => exact .inr (.inl (.refl _))
    | @tail u v h s ih =>
      have hu := s.1
      have su := (hp P pp).dcs _ hu
      rcases ih with g | g | g | g
      · exact .inl g
      · rcases Classical.em (nx M (wo R a b) u v) with q | q
        · exact .inr (.inl (.tail g ⟨hu, q, s.2.2⟩))
        · have e : u = a ∧ v = b := by
            rcases Classical.em (u = a ∧ v = b) with e | e
            · exact e
            · exact absurd ⟨s.2.1.1, s.2.1.2.imp (fun r => ⟨r, e⟩) id⟩ q
          obtain ⟨e1, e2⟩ := e
          subst e1 e2
          have hA : hld M c d u := hc h
          have hB : hld M c d v := s.2.2
          have s0 : stp M R P.dc u v u v := ⟨hu, s.2.1, .inr (k.lrefl v)⟩
          have eq := hab.1 P pp hu
          have useW : Won M P (wo R u v) u v → Won M P (wo R u v) c d := fun ⟨w, w1, w2⟩ => ⟨w, g.trans (lift hA hB w1), w2⟩
          rcases Classical.em (Won M P R u v) with W | W
          · exact .inl (useW (eq.1.2 W))
          rcases Classical.em (P.tr v) with t | t
          · exact absurd ⟨v, .tail (.refl _) s0, t⟩ W
          have nW : ¬ Won M P (wo R u v) u v := fun q => W (eq.1.1 q)
          rcases Classical.em (M.sw v) with sv | sv
          · rcases Classical.em (P.dc v) with dv | dv
            · have r : Rea M P R u v := .inl ⟨sv, .tail (.refl _) s0, dv⟩
              rcases (eq.2 nW).2 r with ⟨_, r1, _⟩ | ⟨ns, _⟩
              · exact .inr (.inl (g.trans (lift hA hB r1)))
              · exact absurd sv ns
            · exact .inr (.inr (.inr ⟨sv, dv, t⟩))
          · have r : Rea M P R u v := .inr ⟨sv, v, .tail (.refl _) s0, sv, k.lrefl v⟩
            rcases (eq.2 nW).2 r with ⟨ns, _⟩ | ⟨_, w, w1, w2, w3⟩
            · exact absurd ns sv
            · exact .inr (.inr (.inl ⟨sv, w, w2, w3, g.trans (lift hA hB w1)⟩))
      · exact absurd su g.1
      · exact absurd hu g.2.1
  have road : ∀ x, Rch (stp M R (fun _ => True) c d) c x → M.sw x → Rch (stp M (wo R a b) (fun _ => True) c d) c x := by
    intro x h
    induction h with
    | refl => exact fun _ => .refl _
    | @tail u v h s ih =>
      intro sv
      have g := ih s.2.1.1
      rcases Classical.em (nx M (wo R a b) u v) with q | q
      · exact .tail g ⟨trivial, q, s.2.2⟩
      · have e : u = a ∧ v = b := by
          rcases Classical.em (u = a ∧ v = b) with e | e
          · exact e
          · exact absurd ⟨s.2.1.1, s.2.1.2.imp (fun r => ⟨r, e⟩) id⟩ q
        obtain ⟨e1, e2⟩ := e
        subst e1 e2
        have r : Road M R u v := ⟨sv, .tail (.refl _) ⟨trivial, s.2.1, .inr (k.lrefl v)⟩⟩
        exact g.trans (lift (hc h) s.2.2 (hab.2.2 r).2)
  refine ⟨fun P pp dc => ⟨⟨won_mono wo_le, fun ⟨x, h, t⟩ => ?_⟩, fun nW => ⟨rea_mono wo_le, fun r => ?_⟩⟩, road_mono wo_le, fun r => ⟨r.1, road d r.2 r.1⟩⟩
  · rcases main P pp x h with g | g | g | g
    · exact g
    · exact ⟨x, g, t⟩
    · exact absurd ((hp P pp).trs _ t) g.1
    · exact absurd t g.2.2
  · rcases r with ⟨sd, h, dd⟩ | ⟨sd, x, h, sx, lx⟩
    · rcases main P pp d h with g | g | g | g
      · exact absurd g nW
      · exact .inl ⟨sd, g, dd⟩
      · exact absurd sd g.1
      · exact absurd dd g.2.1
    · rcases main P pp x h with g | g | g | g
      · exact absurd g nW
      · exact .inr ⟨sd, x, g, sx, lx⟩
      · obtain ⟨_, u, u1, u2, u3⟩ := g
        exact .inr ⟨sd, u, u3, u1, k.ltrans u2 lx⟩
      · exact absurd g.1 sx

/-- where roads in held classes come -/
theorem stp_where (k : M.Ok) (ac : Acyc M R) {D : α → Prop} {x : α} (h : Rch (stp M R D c d) c x) : x = c ∨ M.ln x d ∨ (¬ M.sw x ∧ M.ln x c) := by
  cases h with
  | refl => exact .inl rfl
  | @tail u _ h s =>
    rcases s.2.2 with q | q
    · rcases Classical.em (M.sw x) with sx | sx
      · exact .inl (ac.anti (k.down R q sx) (Rch.nxs (.tail h s)))
      · exact .inr (.inr ⟨sx, q⟩)
    · exact .inr (.inl q)

theorem stp_wo {D : α → Prop} {x y : α} (n : ¬ Rch (stp M (wo R a b) D c d) x y) : ¬ Rch (fun u v => stp M R D c d u v ∧ ¬ (u = a ∧ v = b)) x y := fun h => n (h.mono fun u v s =>
  ⟨s.1.1, ⟨s.1.2.1.1, s.1.2.1.2.imp (fun r => ⟨r, s.2⟩) id⟩, s.1.2.2⟩)

/-- the other registration lies on f's other roads -/
def Uses (M : Shape α) (R : α → α → Prop) (c d a b : α) : Prop :=
  (M.sw d ∧ Rch (nx M R) c a ∧ Rch (nx M R) b d) ∨ (¬ M.sw d ∧ a = c ∧ M.ln b d ∧ ¬ M.sw b)

/-- if (c, d) is needless, but not without (a, b), then (a, b) lies on its other roads -/
theorem uses_of (k : M.Ok) (hp : ∀ P, Ps P → P.Ok M) (ac : Acyc M R) (hf : Eqv M Ps (wo R c d) R c d) (n : ¬ Eqv M Ps (wo (wo R a b) c d) (wo R a b) c d) : Uses M R c d a b := by
  rcases Classical.em (Uses M R c d a b) with u | nu
  · exact u
  refine absurd ?_ n
  have cm : ∀ u v, wo (wo R c d) a b u v → wo (wo R a b) c d u v := fun u v h => ⟨⟨h.1.1, h.2⟩, h.1.2⟩
  have acF : Acyc M (wo R c d) := ac.sub wo_le
  have up : ∀ {D : α → Prop} {x y : α}, Rch (stp M (wo R c d) D c d) x y → Rch (nx M R) x y := fun h => (h.nxs).mono (nx_mono wo_le)
  -- a road without f to a sworn class above d that is not c
  have go : ∀ {D : α → Prop} {w : α}, Rch (stp M (wo R c d) D c d) c w → M.sw w → M.ln w d → Rch (stp M (wo (wo R a b) c d) D c d) c w := by
    intro D w h sw lw
    rcases Classical.em (Rch (stp M (wo (wo R c d) a b) D c d) c w) with q | q
    · exact q.mono (stp_mono cm)
    · obtain ⟨h1, h2, h3⟩ := h.uses (stp_wo q)
      exact absurd (.inl ⟨k.swl lw sw, up h1, (up h3).trans (k.down R lw sw)⟩) nu
  refine ⟨fun P pp dc => ?_, ?_⟩
  · have won : Won M P R c d → Won M P (wo (wo R a b) c d) c d := fun W => by
      obtain ⟨w, h, t⟩ := (hf.1 P pp dc).1.2 W
      have sw := (hp P pp).trs _ t
      rcases stp_where k acF h with e | e | e
      · subst e; exact absurd t ((hp P pp).ne _ dc)
      · exact ⟨w, go h sw e, t⟩
      · exact absurd sw e.1
    refine ⟨⟨won_mono wo_le, fun W => won (won_mono wo_le W)⟩, fun nW => ⟨rea_mono wo_le, fun r => ?_⟩⟩
    have nWf : ¬ Won M P (wo R c d) c d := fun W => nW (won ((hf.1 P pp dc).1.1 W))
    rcases ((hf.1 P pp dc).2 nWf).2 (rea_mono wo_le r) with ⟨sd, h, dd⟩ | ⟨sd, w, h, sw, lw⟩
    · exact .inl ⟨sd, go h sd (k.lrefl d), dd⟩
    · rcases Classical.em (Rch (stp M (wo (wo R c d) a b) P.dc c d) c w) with q | q
      · exact .inr ⟨sd, w, q.mono (stp_mono cm), sw, lw⟩
      · obtain ⟨h1, h2, h3⟩ := h.uses (stp_wo q)
        have ea : a = c := by
          rcases stp_where k acF h1 with e | e | e
          · exact e
          · exact absurd (k.swl e h2.2.1.1) sd
          · exact absurd h2.2.1.1 e.1
        have nsb : ¬ M.sw b := fun sb => by
          rcases stp_where k acF (.tail h1 h2) with e | e | e
          · exact acF _ _ h2.2.1 (by rw [e, ea]; exact .refl _)
          · exact sd (k.swl e sb)
          · exact e.1 sb
        have eb : b = w := by
          rcases h3.cases_head with e | ⟨y, s, _⟩
          · exact e
          · exact absurd s.2.1.1 nsb
        exact absurd (.inr ⟨sd, ea, by rw [eb]; exact lw, nsb⟩) nu
  · exact ⟨road_mono wo_le, fun r => ⟨r.1, go (hf.2.2 (road_mono wo_le r)).2 r.1 (k.lrefl d)⟩⟩

theorem wo_comm (R : α → α → Prop) (a b c d : α) : wo (wo R a b) c d = wo (wo R c d) a b := by
  funext u v
  exact propext ⟨fun h => ⟨⟨h.1.1, h.2⟩, h.1.2⟩, fun h => ⟨⟨h.1.1, h.2⟩, h.1.2⟩⟩

/-- M2: if e = (a, b) is needless, another registration f = (c, d) is needless before iff it is behind -/
theorem needless_iff (k : M.Ok) (hp : ∀ P, Ps P → P.Ok M) (ac : Acyc M R) (hne : ¬ (a = c ∧ b = d)) (he : Eqv M Ps (wo R a b) R a b) :
    Eqv M Ps (wo (wo R a b) c d) (wo R a b) c d ↔ Eqv M Ps (wo R c d) R c d := by
  constructor
  · intro h
    have h1 : Eqv M Ps (wo (wo R a b) c d) R c d := (keep_all k hp h c d).trans (keep_all k hp he c d)
    rw [wo_comm] at h1
    exact h1.between wo_le wo_le
  · intro hf
    rcases Classical.em (Eqv M Ps (wo (wo R a b) c d) (wo R a b) c d) with g | g
    · exact g
    have u1 := uses_of k hp ac hf g
    rcases Classical.em (Eqv M Ps (wo (wo R c d) a b) (wo R c d) a b) with g2 | g2
    · have e1 := keep_all k hp g2 c d
      rw [← wo_comm] at e1
      exact (e1.trans hf).trans (keep_all k hp he c d).symm
    · have u2 := uses_of k hp ac he g2
      exfalso
      rcases u1 with ⟨s1, p1, q1⟩ | ⟨s1, p1, q1, r1⟩
      · rcases u2 with ⟨s2, p2, q2⟩ | ⟨s2, p2, q2, r2⟩
        · exact hne ⟨(ac.anti p1 p2).symm, ac.anti q1 q2⟩
        · exact r2 s1
      · rcases u2 with ⟨s2, p2, q2⟩ | ⟨s2, p2, q2, r2⟩
        · exact r1 s2
        · exact hne ⟨p1, k.anti _ _ q1 q2⟩
end
end Sw
set_option linter.all false
set_option maxRecDepth 100000
set_option maxHeartbeats 4000000
/-! SwF2: roads, by what the callee gives. Terms printed by gen_term.py. -/
namespace Sw
open PySem PySem.Spec PyProof.Rows L2 LamX
section
variable {P : Program} {w : World} {K : PySem.W.Frag} {mg : Str → Option Value} {base : Heap}

theorem sc_roads_from : FnScope ["start", "next_of", "found", "at", "here", "other"] ["start", "next_of"] (defScope s_roads_from) := ⟨rfl, rfl, rfl, by decide +kernel, rfl, by decide +kernel, by decide +kernel⟩

theorem kvR_keys (l : List Str) (fa : Str → Addr) : (kvR l fa).map (fun kv => kV kv.1) = vS l := by
  unfold kvR vS
  rw [List.map_map]
  rfl
theorem kvR_len (l : List Str) (fa : Str → Addr) : (kvR l fa).length = l.length := List.length_map ..
theorem kvR_put {l : List Str} {fa : Str → Addr} {o : Str} {p : Addr} (h : o ∉ l) : putK (kvR l fa) (Sum.inr o) (.ref p) = kvR (l ++ [o]) fun n => if n = o then p else fa n := by
  have e : ((kvR l fa).any fun kv => decide (kv.1 = Sum.inr o)) = false := by
    rw [List.any_eq_false]
    intro x hx
    obtain ⟨n, hn, rfl⟩ := List.mem_map.mp hx
    intro z
    have z' : (Sum.inr n : Key) = Sum.inr o := of_decide_eq_true z
    exact h (by rw [← Sum.inr.inj z']; exact hn)
  unfold putK
  rw [e, if_neg Bool.false_ne_true]
  unfold kvR
  rw [List.map_append]
  congr 1
  · refine List.map_congr_left fun n hn => ?_
    have : n ≠ o := fun z => h (by rw [← z]; exact hn)
    simp only [if_neg this]
  · simp
theorem kvR_in {l : List Str} {fa : Str → Addr} {o : Str} : valV (kvR l fa) (Sum.inr o) = none ↔ o ∉ l := by
  constructor
  · intro h z
    have q := valV_kv (f := fun n => V.ref (fa n)) z
    rw [show valV (kvR l fa) (Sum.inr o) = some (V.ref (fa o)) from q] at h
    cases h
  · exact fun h => valV_kv_no h
def TRoads : TG2 := fun v tl H Q => ∃ (start : Str) (names : List Str) (N : Str → List Str), v = .str start ∧ start ∈ names ∧ names.length ≤ 20 ∧ (∀ n ∈ names, ∀ m ∈ N n, m ∈ names) ∧
  (∀ n ∈ names, ∀ H', Le H H' → ∀ Q' : VK, (∀ p H'', Le H' H'' → H'' p = some (.lst (vS (N n))) → Q' (.ref p) H'') → tl (.str n) H' Q') ∧
  (∀ d H' l fa, Le H H' → H d = none → H' d = some (.dK (kvR l fa)) → l.length ≤ 20 → (∀ x ∈ l, x ∈ names) → (∀ x, x ∈ l ↔ Rch (fun u v => v ∈ N u) start x) → Q (.ref d) H')
/-- what has been found: the dict at d, the first i done -/
structure Fnd (names : List Str) (N : Str → List Str) (start : Str) (H0 H : Hp) (d : Addr) (l : List Str) (i : Nat) : Prop where
  le : Le H0 H
  fr : H0 d = none
  ex : ∃ fa, H d = some (.dK (kvR l fa)) ∧ ∀ n ∈ l, ∃ xs, H (fa n) = some (.lst xs) ∧ xs.length ≤ l.length
  st : start ∈ l
  nd : l.Nodup
  rc : ∀ x ∈ l, x ∈ names ∧ Rch (fun u v => v ∈ N u) start x
  il : i ≤ l.length
  dn : ∀ j x, j < i → l[j]? = some x → ∀ y ∈ N x, y ∈ l
theorem Fnd.end_ {names : List Str} {N : Str → List Str} {start : Str} {H0 H : Hp} {d : Addr} {l : List Str} {i : Nat} (F : Fnd names N start H0 H d l i) (h : ¬ i < l.length) (x : Str) : x ∈ l ↔ Rch (fun u v => v ∈ N u) start x := by
  refine ⟨fun hx => (F.rc x hx).2, fun h2 => ?_⟩
  have go : ∀ a b, Rch (fun u v => v ∈ N u) a b → a ∈ l → b ∈ l := by
    intro a b r ha
    induction r with
    | refl => exact ha
    | tail r s ih =>
      obtain ⟨j, hj, e⟩ := List.mem_iff_getElem.mp ih
      exact F.dn j _ (by omega) (by rw [List.getElem?_eq_getElem hj, e]) _ s
  exact go _ _ h2 F.st
theorem Fnd.len {names : List Str} {N : Str → List Str} {start : Str} {H0 H : Hp} {d : Addr} {l : List Str} {i : Nat} (F : Fnd names N start H0 H d l i) : l.length ≤ names.length := length_le_of_nodup_of_subset _ _ F.nd fun x hx => (F.rc x hx).1
theorem Fnd.mono {names : List Str} {N : Str → List Str} {start : Str} {H0 H H' : Hp} {d : Addr} {l : List Str} {i : Nat} (F : Fnd names N start H0 H d l i) (e : Le H H') : Fnd names N start H0 H' d l i := by
  obtain ⟨fa, h1, h2⟩ := F.ex
  exact ⟨F.le.trans e, F.fr, ⟨fa, e.at h1, fun n hn => let ⟨xs, a, b⟩ := h2 n hn; ⟨xs, e.at a, b⟩⟩, F.st, F.nd, F.rc, F.il, F.dn⟩
theorem Fnd.add {names : List Str} {N : Str → List Str} {start o : Str} {H0 H : Hp} {d p : Addr} {l : List Str} {i : Nat} {xs : List V} {fa : Str → Addr} (F : Fnd names N start H0 H d l i) (hd : H d = some (.dK (kvR l fa))) (hfa : ∀ n ∈ l, ∃ xs, H (fa n) = some (.lst xs) ∧ xs.length ≤ l.length) (hp : H p = some (.lst xs)) (hx : xs.length ≤ l.length + 1) (ho : o ∉ l) (hn : o ∈ names) (hr : Rch (fun u v => v ∈ N u) start o) :
    Fnd names N start H0 (upd H d (.dK (putK (kvR l fa) (Sum.inr o) (.ref p)))) d (l ++ [o]) i := by
  refine ⟨F.le.mut F.fr hd rfl, F.fr, ⟨_, by rw [kvR_put ho]; exact upd_same, fun n hn2 => ?_⟩, List.mem_append_left _ F.st, ?_, fun x hx => ?_, by rw [List.length_append]; have := F.il; omega, fun j x hj e y hy => ?_⟩
  · have nd : ∀ b ys, H b = some (.lst ys) → b ≠ d := fun b ys q z => by rw [z, hd] at q; cases q
    rw [List.length_append]
    by_cases h : n = o
    · rw [if_pos h]
      exact ⟨xs, by rw [upd_ne (nd _ _ hp)]; exact hp, hx⟩
    · rw [if_neg h]
      obtain ⟨ys, h1, h2⟩ := hfa n ((List.mem_append.mp hn2).elim id fun z => absurd (List.mem_singleton.mp z) h)
      exact ⟨ys, by rw [upd_ne (nd _ _ h1)]; exact h1, by omega⟩
  · rw [List.nodup_append]
    refine ⟨F.nd, by simp, fun a ha b hb => ?_⟩
    rw [List.mem_singleton.mp hb]
    exact fun z => ho (by rw [← z]; exact ha)
  · rcases List.mem_append.mp hx with h | h
    · exact F.rc x h
    · rw [List.mem_singleton.mp h]; exact ⟨hn, hr⟩
  · have hj2 : j < l.length := Nat.lt_of_lt_of_le hj F.il
    rw [List.getElem?_append_left hj2] at e
    exact List.mem_append_left _ (F.dn j x hj e y hy)
theorem roads_gives {X : Cx} (T : Tx X.K X.mg) {k : Nat} {g : Addr} {cdg : Value} {q : Str} : Gives2 X k ["start", "next_of", "found", "at", "here", "other"] "roads_from" (defScope s_roads_from) g cdg (defBody s_roads_from) "next_of" "here" 1 4 q TRoads := by
  intro f c' s H Q v tl hr act hc h
  refine ⟨_, (pss_cons (ps_par (i := 2) (j := 3) rfl sc_roads_from.nd rfl rfl (by decide) rfl rfl (pa_cons (pe_disp (pps_cons (pv 0) (pe_lst (pa_cons (pv 0) pa_nil)) pps_nil) (by rfl) (by rfl) (fun z => by cases z) (by decide)) (pa_cons pe_int pa_nil)) (by rfl))
    (pss_cons (ps_while PassesOwn.never (pt_cmpR op_lt (pv 3) (pe_callB call_lenD (by rfl) T.f_len bb_len (pa_cons (pv 2) pa_nil)) (nomark _)) (pss_cons (ps_set (i := 4) sc_roads_from.nd rfl (Or.inl rfl) (pe_ix (wixl X.K) (pe_callTy (call_list_dK rfl) (by rfl) T.f_list bb_list (pa_cons (pv 2) pa_nil)) (pv 3) (fun _ _ => rfl)))
    (pss_cons (ps_for PassesOwn.never rfl (wlist _ (act _ _ _)) (pg_name (i := 5) sc_roads_from.nd rfl (Or.inl rfl)) (pss_one (ps_expr (pe_dsetd (pv 2) (pv 5) (pe_op op_cat (pe_dget (hu_of hr) (pv 2) (pv 4) (fun _ _ => rfl)) (pe_lst (pa_cons (pv 5) pa_nil))) ⟨rfl, rfl, rfl, rfl⟩))))
    (pss_one (ps_aug (i := 3) sc_roads_from.nd rfl (Or.inl rfl) pe_int ip_add)))))
    (pss_one (ps_ret (pv 2))))), ?_⟩
  obtain ⟨start, names, N, rfl, hst, hsz, hN, hnx, done⟩ := h
  refine fun d hd => ⟨_, rfl, _, rfl, (by decide : 1 ≤ sizeLine), fun p hp => ⟨?_, [(Sum.inr start, .ref p)], rfl, (by decide : 1 ≤ 15), _, _, rfl, ?_⟩⟩
  · rw [upd_ne (by rintro rfl; rw [upd_same] at hp; cases hp)]
    exact upd_same
  have nd : d ≠ p := fun z => by rw [z, upd_same] at hp; cases hp
  have hp0 : H p = none := by rw [upd_ne nd.symm] at hp; exact hp
  have hpd : upd (upd H d (.dK [])) p (.lst [V.str start]) d = some (.dK []) := by rw [upd_ne nd]; exact upd_same
  refine ⟨fun m σ Hc => ∃ (l : List Str) (i : Nat) (v4 v5 : Option V), σ = [some (.str start), some (.ref f), some (.ref d), some (.int i), v4, v5] ∧ Fnd names N start H Hc d l i ∧ m = names.length - i, ⟨_, [start], 0, none, none, rfl, ?_, rfl⟩, ?_⟩
  · refine ⟨((Le.new hd).trans (Le.new hp)).mut hd hpd rfl, hd, ⟨fun _ => p, upd_same, fun n hn => ⟨[V.str start], ?_, Nat.le_refl _⟩⟩, List.mem_singleton.mpr rfl, by simp, fun x hx => ?_, Nat.zero_le _, fun j x hj => absurd hj (Nat.not_lt_zero _)⟩
    · rw [upd_ne nd.symm]; exact upd_same
    · rw [List.mem_singleton.mp hx]; exact ⟨hst, .refl _⟩
  rintro m σ Hc ⟨l, i, v4, v5, rfl, F, rfl⟩
  obtain ⟨fa, hf, hxs⟩ := F.ex
  refine ⟨_, rfl, _, rfl, d, _, rfl, hf, _, _, rfl, rfl, _, rfl, ?_⟩
  rw [kvR_len]
  by_cases hlt : i < l.length
  · rw [decide_eq_true (show (i : Int) < (l.length : Int) by omega)]
    have hln := F.len
    refine iteT ⟨fun σ' H' => ∃ m', m' < names.length - i ∧ ∃ (l : List Str) (i : Nat) (v4 v5 : Option V), σ' = [some (.str start), some (.ref f), some (.ref d), some (.int i), v4, v5] ∧ Fnd names N start H H' d l i ∧ m' = names.length - i, fun σ' H' z => z, ?_⟩
    refine ⟨_, rfl, d, _, rfl, hf, fun q1 hq1 => ⟨_, rfl, q1, _, i, .str l[i], rfl, rfl, SqL.of upd_same, ?_, ?_⟩⟩
    · rw [kvR_keys]
      exact atI_nat (by unfold vS; rw [List.getElem?_map, List.getElem?_eq_getElem hlt]; rfl)
    have F1 := F.mono (Le.new (o := .lst ((kvR l fa).map fun kv => kV kv.1)) hq1)
    have hn := (F.rc _ (List.getElem_mem hlt)).1
    have hN1 := (F.rc _ (List.getElem_mem hlt)).2
    generalize hxe : l[i] = x at hn hN1
    have hlx : l[i]? = some x := by rw [List.getElem?_eq_getElem hlt, hxe]
    refine ⟨rfl, _, rfl, Le.code F1.le hc, hnx _ hn _ F1.le _ fun p1 H1 e1 hp1 => ⟨p1, rfl, ⟨_, SqL.of hp1⟩, ?_⟩⟩
    have F2 := F1.mono e1
    refine for_it (ws_list (K := X.K) (a := p1) (l := N x)) (fun j σ H' => ∃ (l' : List Str) (v5 : Option V), σ = [some (.str start), some (.ref f), some (.ref d), some (.int i), some (.str x), v5] ∧ Fnd names N start H H' d l' i ∧ l'[i]? = some x ∧ (∀ y ∈ (N x).take j, y ∈ l') ∧ H' p1 = some (.lst (vS (N x)))) ?_ ?_ ?_ ?_
    · exact ⟨l, v5, rfl, F2, hlx, by simp, hp1⟩
    · rintro j σ H' _ ⟨l', v5, rfl, F3, h1, h2, h3⟩
      exact SqL.of h3
    · rintro j y σ Ha Hb hj ⟨l', v5, rfl, F3, h1, h2, h3⟩ ⟨rfl, o, ho, rfl⟩
      obtain ⟨fa3, hf3, hx3⟩ := F3.ex
      have hi3 : i < l'.length := (List.getElem?_eq_some_iff.mp h1).1
      have hxl : x ∈ l' := List.mem_of_getElem? h1
      have hoN : o ∈ N x := List.mem_of_getElem? ho
      have hon : o ∈ names := hN x hn o hoN
      have hor : Rch (fun u v => v ∈ N u) start o := .tail hN1 hoN
      obtain ⟨xs, hxs1, hxs2⟩ := hx3 x hxl
      have hl3 := F3.len
      refine ⟨_, rfl, d, rfl, .inl ⟨_, .inl hf3⟩, _, rfl, _, rfl, _, rfl, d, _, rfl, dget_kv (.inl hf3) hxl, _, rfl, (by decide : 1 ≤ sizeLine), fun q2 hq2 => ?_⟩
      have F4 := F3.mono (Le.new (o := .lst [V.str o]) hq2)
      have e2 : xs.length + 1 ≤ sizeLine := sz5 (by omega)
      refine ⟨fa3 x, q2, xs, [V.str o], rfl, rfl, (Le.new hq2).at hxs1, upd_same, e2, fun q3 hq3 => ?_⟩
      have e34 := (Le.new (o := .lst [V.str o]) hq2).trans (Le.new (o := .lst (xs ++ [V.str o])) hq3)
      have F5 := F3.mono e34
      have hd5 := e34.at hf3
      refine ⟨kvR l' fa3, Sum.inr o, hd5, rfl, sz5' (by rw [kvR_len]; omega), fun v hv => ?_, fun hv => ?_⟩
      · have hol : o ∈ l' := Classical.byContradiction fun z => by rw [kvR_in.mpr z] at hv; cases hv
        refine ⟨l', _, rfl, F5, h1, fun y hy => ?_, e34.at h3⟩
        rw [take_snoc ho] at hy
        rcases List.mem_append.mp hy with z | z
        · exact h2 y z
        · rw [List.mem_singleton.mp z]; exact hol
      · have hol := kvR_in.mp hv
        refine ⟨l' ++ [o], _, rfl, F5.add hd5 (fun n hn => ?_) upd_same ?_ hol hon hor, by rw [List.getElem?_append_left hi3]; exact h1, fun y hy => ?_, ?_⟩
        · obtain ⟨ys, a, b⟩ := hx3 n hn
          exact ⟨ys, e34.at a, b⟩
        · rw [List.length_append]
          show xs.length + 1 ≤ _
          omega
        · rw [take_snoc ho] at hy
          rcases List.mem_append.mp hy with z | z
          · exact List.mem_append_left _ (h2 y z)
          · exact List.mem_append_right _ z
        · rw [upd_ne (fun z => by rw [z, hf3] at h3; cases h3)]
          exact e34.at h3
    · rintro σ H' ⟨l', v5, rfl, F3, h1, h2, h3⟩
      have hi3 : i < l'.length := (List.getElem?_eq_some_iff.mp h1).1
      refine ⟨_, rfl, _, _, rfl, rfl, _, ?_, l', i + 1, _, _, rfl, ⟨F3.le, F3.fr, F3.ex, F3.st, F3.nd, F3.rc, hi3, fun j x' hj e y hy => ?_⟩, rfl⟩
      · have := F3.len
        omega
      · by_cases hji : j = i
        · subst hji
          rw [h1] at e
          cases e
          exact h2 y (by rw [List.take_length]; exact hy)
        · exact F3.dn j x' (by omega) e y hy
  · rw [decide_eq_false (show ¬ (i : Int) < (l.length : Int) by omega)]
    refine iteF ⟨_, rfl, ?_⟩
    exact done d Hc l fa F.le F.fr hf (Nat.le_trans F.len hsz) (fun x hx => (F.rc x hx).1) (F.end_ hlt)

end
end Sw
set_option linter.all false
set_option maxRecDepth 100000
set_option maxHeartbeats 4000000
/-! SwF3: the table's readers. Terms printed by gen_term.py. -/
namespace Sw
open PySem PySem.Spec PyProof.Rows L2 LamX
section
variable {P : Program} {w : World} {K : PySem.W.Frag} {mg : Str → Option Value} {base : Heap}


theorem kit_str : PySem.W.kitOne K (.type "str") (.type "str") = some true := kit_ty (by kernel_rfl)
theorem kit_bool : PySem.W.kitOne K (.type "bool") (.type "bool") = some true := kit_ty (by kernel_rfl)
theorem kit_tup : PySem.W.kitOne K (.type "tuple") (.type "tuple") = some true := kit_ty (by kernel_rfl)
def spTSworn : Sp := fun vs H Q _ => ∃ t U n, vs = [.ref t, .str n] ∧ TabAt H t U ∧ U.Ok ∧ n ∈ U.names ∧ ∀ H', Le H H' → Q (.bl (U.sworn n)) H'
def spTBelow : Sp := fun vs H Q _ => ∃ t U n, vs = [.ref t, .str n] ∧ TabAt H t U ∧ U.Ok ∧ ∀ p H', Le H H' → H p = none → H' p = some (.lst (vS (U.below n))) → Q (.ref p) H'
def spTNext : Sp := fun vs H Q _ => ∃ t U n, vs = [.ref t, .str n] ∧ TabAt H t U ∧ U.Ok ∧ n ∈ U.names ∧ ∀ p H', Le H H' → Fre H p → H' p = some (.lst (vS (U.next n))) → Q (.ref p) H'
def spTAns : Sp := fun vs H Q _ => ∃ t U n mt ms, vs = [.ref t, .str n, .ref mt] ∧ TabAt H t U ∧ U.Ok ∧ n ∈ U.names ∧ H mt = some (.tup (vS ms)) ∧ ∀ H', Le H H' → Q (optB (U.ans n ms)) H'
def spTAbove : Sp := fun vs H Q _ => ∃ t U n m, vs = [.ref t, .str n, .str m] ∧ TabAt H t U ∧ U.Ok ∧ m ∈ U.names ∧ ∀ H', Le H H' → Q (.bl (U.above n m)) H'
def spTHas : Sp := fun vs H Q _ => ∃ t U n, vs = [.ref t, .str n] ∧ TabAt H t U ∧ ∀ H', Le H H' → Q (.bl (U.names.contains n)) H'
def spTAll : Sp := fun vs H Q _ => ∃ t U, vs = [.ref t] ∧ TabAt H t U ∧ ∀ p H', Le H H' → H p = none → H' p = some (.lst (vS U.names)) → Q (.ref p) H'

theorem sc_Table_sworn : FnScope ["self", "name"] ["self", "name"] (defScope s_Table_sworn) := ⟨rfl, rfl, rfl, by decide +kernel, rfl, by decide +kernel, by decide +kernel⟩
theorem ok_Table_sworn (T : Tx K mg) (c_is_sworn : Cal P w K mg base "is_sworn" 1 ["table", "name"] spSworn) : CalM P w K mg base cTable "sworn" 2 ["self", "name"] spTSworn := by
  obtain ⟨fd, F⟩ := T.fn _ fi_Table_sworn
  have G : FnOk P w K mg base CX0 2 d_Table_sworn.f fd ["self", "name"] spTSworn := by
    refine F.ok sc_Table_sworn (fun vs H Q E h => ?_) (fun cdv A outer s H vs Q E hr h => ⟨_, PSs.nox (X := cxOf CX0 P w K mg base _ _ _ _ cdv A outer s H E) ((pss_one (ps_ret (pc c_is_sworn hr rfl (pa_cons (wfld K (pv 0) rfl) (pa_cons (pv 1) pa_nil)))))), ?_⟩)
    · obtain ⟨_, _, _, rfl, _⟩ := h
      rfl
    · obtain ⟨t, U, n, rfl, ⟨dx, r, nb, l, mk, ht, hR, hN, hL⟩, ok, hn, k⟩ := h
      refine ⟨_, rfl, _, cTable, dx, _, _, rfl, ht, T.cl_Table, T.n_Table_records, fsT_records, _, rfl, r, U, n, rfl, hR, ok, hn, k⟩
  exact ⟨⟨_, fd, G, T.m_Table_sworn, T.cl_Table, F.bindsN (ps := ["self", "name"]) fun _ _ _ _ _ _ us hl => match us, hl with | [_, _], _ => rfl⟩⟩

theorem sc_Table_below : FnScope ["self", "name"] ["self", "name"] (defScope s_Table_below) := ⟨rfl, rfl, rfl, by decide +kernel, rfl, by decide +kernel, by decide +kernel⟩
theorem ok_Table_below (T : Tx K mg) (c_subclasses : Cal P w K mg base "subclasses" 1 ["table", "name"] spBelow) : CalM P w K mg base cTable "below" 2 ["self", "name"] spTBelow := by
  obtain ⟨fd, F⟩ := T.fn _ fi_Table_below
  have G : FnOk P w K mg base CX0 2 d_Table_below.f fd ["self", "name"] spTBelow := by
    refine F.ok sc_Table_below (fun vs H Q E h => ?_) (fun cdv A outer s H vs Q E hr h => ⟨_, PSs.nox (X := cxOf CX0 P w K mg base _ _ _ _ cdv A outer s H E) ((pss_one (ps_ret (pc c_subclasses hr rfl (pa_cons (wfld K (pv 0) rfl) (pa_cons (pv 1) pa_nil)))))), ?_⟩)
    · obtain ⟨_, _, _, rfl, _⟩ := h
      rfl
    · obtain ⟨t, U, n, rfl, ⟨dx, r, nb, l, mk, ht, hR, hN, hL⟩, ok, k⟩ := h
      refine ⟨_, rfl, _, cTable, dx, _, _, rfl, ht, T.cl_Table, T.n_Table_records, fsT_records, _, rfl, r, U, n, rfl, hR, ok, k⟩
  exact ⟨⟨_, fd, G, T.m_Table_below, T.cl_Table, F.bindsN (ps := ["self", "name"]) fun _ _ _ _ _ _ us hl => match us, hl with | [_, _], _ => rfl⟩⟩

theorem sc_Table_answer_for : FnScope ["self", "name", "methods"] ["self", "name", "methods"] (defScope s_Table_answer_for) := ⟨rfl, rfl, rfl, by decide +kernel, rfl, by decide +kernel, by decide +kernel⟩
theorem ok_Table_answer_for (T : Tx K mg) (c_answer_by_hook : Cal P w K mg base "answer_by_hook" 2 ["table", "name", "methods"] spAnsBy) : CalM P w K mg base cTable "answer_for" 3 ["self", "name", "methods"] spTAns := by
  obtain ⟨fd, F⟩ := T.fn _ fi_Table_answer_for
  have G : FnOk P w K mg base CX0 3 d_Table_answer_for.f fd ["self", "name", "methods"] spTAns := by
    refine F.ok sc_Table_answer_for (fun vs H Q E h => ?_) (fun cdv A outer s H vs Q E hr h => ⟨_, PSs.nox (X := cxOf CX0 P w K mg base _ _ _ _ cdv A outer s H E) ((pss_one (ps_ret (pc c_answer_by_hook hr rfl (pa_cons (wfld K (pv 0) rfl) (pa_cons (pv 1) (pa_cons (pv 2) pa_nil))))))), ?_⟩)
    · obtain ⟨_, _, _, _, _, rfl, _⟩ := h
      rfl
    · obtain ⟨t, U, n, mt, ms, rfl, ⟨dx, r, nb, l, mk, ht, hR, hN, hL⟩, ok, hn, hm, k⟩ := h
      refine ⟨_, rfl, _, cTable, dx, _, _, rfl, ht, T.cl_Table, T.n_Table_records, fsT_records, _, rfl, _, rfl, r, U, n, mt, ms, rfl, hR, ok, hn, hm, k⟩
  exact ⟨⟨_, fd, G, T.m_Table_answer_for, T.cl_Table, F.bindsN (ps := ["self", "name", "methods"]) fun _ _ _ _ _ _ us hl => match us, hl with | [_, _, _], _ => rfl⟩⟩

theorem sc_Table_is_above : FnScope ["self", "name", "other"] ["self", "name", "other"] (defScope s_Table_is_above) := ⟨rfl, rfl, rfl, by decide +kernel, rfl, by decide +kernel, by decide +kernel⟩
theorem ok_Table_is_above (T : Tx K mg)  : CalM P w K mg base cTable "is_above" 1 ["self", "name", "other"] spTAbove := by
  obtain ⟨fd, F⟩ := T.fn _ fi_Table_is_above
  have G : FnOk P w K mg base CX0 1 d_Table_is_above.f fd ["self", "name", "other"] spTAbove := by
    refine F.ok sc_Table_is_above (fun vs H Q E h => ?_) (fun cdv A outer s H vs Q E hr h => ⟨_, PSs.nox (X := cxOf CX0 P w K mg base _ _ _ _ cdv A outer s H E) ((pss_one (ps_ret (pe_cmpR (win K) (pv 1) (wfld K (pe_dget (hu_of hr) (wfld K (pv 0) rfl) (pv 2) (fun _ _ => rfl)) rfl) rfl)))), ?_⟩)
    · obtain ⟨_, _, _, _, rfl, _⟩ := h
      rfl
    · obtain ⟨t, U, n, m, rfl, ⟨dx, r, nb, l, mk, ht, ⟨ad, hr0, hE⟩, hN, hL⟩, ok, hm, k⟩ := h
      obtain ⟨dx2, tp, mk2, hv, ln, he, _, _, _, hln⟩ := (hE m hm).ex
      refine ⟨_, rfl, _, rfl, _, cTable, dx, _, _, rfl, ht, T.cl_Table, T.n_Table_records, fsT_records, _, rfl, r, _, rfl, dget_kv (.inl hr0) hm, _, cEntry, dx2, _, _, rfl, he, T.cl_Entry, T.n_Entry_line, fsE_line, ln, _, rfl, .inl (SqL.of hln), rfl, vS_flat _, ?_⟩
      rw [inV_vS]
      exact k H (Le.refl _)
  exact ⟨⟨_, fd, G, T.m_Table_is_above, T.cl_Table, F.bindsN (ps := ["self", "name", "other"]) fun _ _ _ _ _ _ us hl => match us, hl with | [_, _, _], _ => rfl⟩⟩

theorem sc_Table_has : FnScope ["self", "name"] ["self", "name"] (defScope s_Table_has) := ⟨rfl, rfl, rfl, by decide +kernel, rfl, by decide +kernel, by decide +kernel⟩
theorem ok_Table_has (T : Tx K mg)  : CalM P w K mg base cTable "has" 1 ["self", "name"] spTHas := by
  obtain ⟨fd, F⟩ := T.fn _ fi_Table_has
  have G : FnOk P w K mg base CX0 1 d_Table_has.f fd ["self", "name"] spTHas := by
    refine F.ok sc_Table_has (fun vs H Q E h => ?_) (fun cdv A outer s H vs Q E hr h => ⟨_, PSs.nox (X := cxOf CX0 P w K mg base _ _ _ _ cdv A outer s H E) ((pss_one (ps_ret (pe_and (pe_callB (wisi K) (by rfl) T.f_isinstance bb_isinstance (pa_cons (pv 1) (pa_cons (pe_bltn (v := .ty "str") (by rfl) T.f_str bb_str rfl) pa_nil))) (pe_one (pe_cmp (pc_din (hu_of hr) (pv 1) (wfld K (pv 0) rfl)) rfl)))))), ?_⟩)
    · obtain ⟨_, _, _, rfl, _⟩ := h
      rfl
    · obtain ⟨t, U, n, rfl, ⟨dx, r, nb, l, mk, ht, ⟨ad, hr0, hE⟩, hN, hL⟩, k⟩ := h
      refine ⟨_, rfl, V.str n, .ty "str", _, _, true, rfl, .ty "str", .base (.str n), kit_str, _, rfl, iteT ⟨_, rfl, _, rfl, _, cTable, dx, _, _, rfl, ht, T.cl_Table, T.n_Table_records, fsT_records, r, _, rfl, .inl ⟨_, Sum.inr n, .inl hr0, rfl, rfl⟩, ?_⟩⟩
      have e : (valV (kvR U.names ad) (Sum.inr n)).isSome = U.names.contains n := by
        by_cases hn : n ∈ U.names
        · rw [show valV (kvR U.names ad) (Sum.inr n) = _ from valV_kv hn, List.contains_iff_mem.mpr hn]
          rfl
        · rw [kvR_in.mpr hn]
          exact (Bool.eq_false_iff.mpr fun z => hn (List.contains_iff_mem.mp z)).symm
      rw [e]
      exact k H (Le.refl _)
  exact ⟨⟨_, fd, G, T.m_Table_has, T.cl_Table, F.bindsN (ps := ["self", "name"]) fun _ _ _ _ _ _ us hl => match us, hl with | [_, _], _ => rfl⟩⟩

theorem sc_Table_all_names : FnScope ["self"] ["self"] (defScope s_Table_all_names) := ⟨rfl, rfl, rfl, by decide +kernel, rfl, by decide +kernel, by decide +kernel⟩
theorem ok_Table_all_names (T : Tx K mg)  : CalM P w K mg base cTable "all_names" 1 ["self"] spTAll := by
  obtain ⟨fd, F⟩ := T.fn _ fi_Table_all_names
  have G : FnOk P w K mg base CX0 1 d_Table_all_names.f fd ["self"] spTAll := by
    refine F.ok sc_Table_all_names (fun vs H Q E h => ?_) (fun cdv A outer s H vs Q E hr h => ⟨_, PSs.nox (X := cxOf CX0 P w K mg base _ _ _ _ cdv A outer s H E) ((pss_one (ps_ret (pe_callTy (call_list_dK rfl) (by rfl) T.f_list bb_list (pa_cons (wfld K (pv 0) rfl) pa_nil))))), ?_⟩)
    · obtain ⟨_, _, rfl, _⟩ := h
      rfl
    · obtain ⟨t, U, rfl, ⟨dx, r, nb, l, mk, ht, ⟨ad, hr0, hE⟩, hN, hL⟩, k⟩ := h
      refine ⟨_, rfl, _, cTable, dx, _, _, rfl, ht, T.cl_Table, T.n_Table_records, fsT_records, r, _, rfl, hr0, fun p hp => ?_⟩
      exact k p _ (Le.new hp) hp (by rw [upd_same, kvR_keys])
  exact ⟨⟨_, fd, G, T.m_Table_all_names, T.cl_Table, F.bindsN (ps := ["self"]) fun _ _ _ _ _ _ us hl => match us, hl with | [_], _ => rfl⟩⟩


section
variable {r nb l : Addr} {i : Int}
theorem fsT_no_sworn : (fsT r nb l i).lookup ("sworn" : Str) = none := by kernel_rfl
theorem fsT_no_below : (fsT r nb l i).lookup ("below" : Str) = none := by kernel_rfl
theorem fsT_no_next_of : (fsT r nb l i).lookup ("next_of" : Str) = none := by kernel_rfl
theorem fsT_no_answer_for : (fsT r nb l i).lookup ("answer_for" : Str) = none := by kernel_rfl
theorem fsT_no_is_above : (fsT r nb l i).lookup ("is_above" : Str) = none := by kernel_rfl
theorem fsT_no_has : (fsT r nb l i).lookup ("has" : Str) = none := by kernel_rfl
theorem fsT_no_all_names : (fsT r nb l i).lookup ("all_names" : Str) = none := by kernel_rfl
theorem fsT_no_copied : (fsT r nb l i).lookup ("copied" : Str) = none := by kernel_rfl
theorem fsT_no_registrations : (fsT r nb l i).lookup ("registrations" : Str) = none := by kernel_rfl
theorem fsT_no_remove_registration : (fsT r nb l i).lookup ("remove_registration" : Str) = none := by kernel_rfl
theorem fsT_no_add_registration : (fsT r nb l i).lookup ("add_registration" : Str) = none := by kernel_rfl
theorem fsT_no_add_class : (fsT r nb l i).lookup ("add_class" : Str) = none := by kernel_rfl
theorem fsT_no_ring_by : (fsT r nb l i).lookup ("ring_by" : Str) = none := by kernel_rfl
theorem fsT_no_shortest_road : (fsT r nb l i).lookup ("shortest_road" : Str) = none := by kernel_rfl
end
/-- table.m(..) -/
theorem TabAt.ins {H : Hp} {t : Addr} {U : Tb} (h : TabAt H t U) : ∃ dx r nb l mk, H t = some (.ins cTable dx (fsT r nb l mk)) := by
  obtain ⟨dx, r, nb, l, mk, ht, _⟩ := h.ex
  exact ⟨dx, r, nb, l, mk, ht⟩

theorem sc_Table_next_of : FnScope ["self", "name", "listed", "other"] ["self", "name"] (defScope s_Table_next_of) := ⟨rfl, rfl, rfl, by decide +kernel, rfl, by decide +kernel, by decide +kernel⟩
theorem ok_Table_next_of (T : Tx K mg) (c_Table_sworn : CalM P w K mg base cTable "sworn" 2 ["self", "name"] spTSworn) (c_Table_below : CalM P w K mg base cTable "below" 2 ["self", "name"] spTBelow) : CalM P w K mg base cTable "next_of" 3 ["self", "name"] spTNext := by
  obtain ⟨fd, F⟩ := T.fn _ fi_Table_next_of
  have G : FnOk P w K mg base CX0 3 d_Table_next_of.f fd ["self", "name"] spTNext := by
    refine F.ok sc_Table_next_of (fun vs H Q E h => ?_) (fun cdv A outer s H vs Q E hr h => ⟨_, PSs.nox (X := cxOf CX0 P w K mg base _ _ _ _ cdv A outer s H E) ((pss_cons (ps_if (pt_not (pt_val (pm c_Table_sworn hr (pv 0) (pa_cons (pv 1) pa_nil)))) (pss_one (ps_ret (pe_lst pa_nil))) pss_nil)
    (pss_cons (ps_set (i := 2) sc_Table_next_of.nd rfl (Or.inr rfl) (pe_dget (hu_of hr) (wfld K (pv 0) rfl) (pv 1) (fun _ _ => rfl)))
    (pss_one (ps_ret (pe_op op_cat (pv 2) (pe_lc (own := [("other", 3)]) rfl sc_Table_next_of.nd (wlist K (pm c_Table_below hr (pv 0) (pa_cons (pv 1) pa_nil))) (blkOk_by (N := ["self", "name", "listed", "other"]) (sc := defScope s_Table_next_of) (own := [("other", 3)]) (by decide +kernel)) (fun _ _ _ _ _ => (pg_name (i := 3) sc_Table_next_of.nd rfl (Or.inl rfl))) (fun _ _ _ _ _ => (pts_one (pt_cmpR (wnin K) (pv 3) (pv 2) rfl))) (fun _ _ _ _ _ => (pv 3))))))))), ?_⟩)
    · obtain ⟨_, _, _, rfl, _⟩ := h
      rfl
    · obtain ⟨t, U, n, rfl, R, ok, hn, k⟩ := h
      obtain ⟨dx, r, nb, l, mk, ht⟩ := R.ins
      refine ⟨_, rfl, t, dx, _, rfl, ht, fsT_no_sworn, _, rfl, t, U, n, rfl, R, ok, hn, fun H1 e1 => ⟨_, rfl, ?_⟩⟩
      cases hs : U.sworn n with
      | false =>
        refine iteT ⟨by decide, fun p hp => k p _ (e1.trans (Le.new hp)) (e1.fr0 hp) ?_⟩
        unfold Tb.next
        rw [hs]
        exact upd_same
      | true =>
        refine iteF ?_
        obtain ⟨dx1, r1, nb1, l1, mk1, ht1, hR1, hN1, ⟨la, hl0, hla⟩⟩ := R.mono e1
        refine ⟨_, rfl, _, cTable, dx1, _, _, rfl, ht1, T.cl_Table, T.n_Table_lists, fsT_lists, _, rfl, l1, _, rfl, dget_kv (.inl hl0) hn, ?_⟩
        show gName 2 _ _ _ _
        refine ⟨_, rfl, _, rfl, t, dx1, _, rfl, ht1, fsT_no_below, _, rfl, t, U, n, rfl, R.mono e1, ok, fun p2 H2 e2 _ hp2 => ⟨p2, rfl, ⟨_, SqL.of hp2⟩, fun D hD => ?_⟩⟩
        have hbn : (U.below n).length ≤ 20 := Nat.le_trans (List.length_filter_le ..) ok.sz
        refine lc_S (ws_list (K := K) (a := p2) (l := U.below n)) (fun o => !(U.ls n).contains o) V.str (by omega) hD (fun H' e => SqL.of (e.at hp2)) ?_ ?_
        · intro z hz Hb e _ QF QT h1 h2
          refine ⟨rfl, _, rfl, _, rfl, la n, _, rfl, .inl (SqL.of (e.at (e2.at (hla n hn)))), rfl, vS_flat _, ?_⟩
          rw [inV_vS]
          cases hq : (U.ls n).contains z with
          | true => exact ⟨_, rfl, iteF (h1 Hb (Le.refl _) (by rw [hq]; rfl))⟩
          | false => exact ⟨_, rfl, iteT ⟨_, rfl, h2 Hb (Le.refl _) (by rw [hq]; rfl)⟩⟩
        · intro H3 e3 hD3
          have hrs := ok.rsz n hn
          have hf := List.length_filter_le (fun o => !(U.ls n).contains o) (U.below n)
          refine ⟨la n, D, _, _, rfl, rfl, e3.at (e2.at (hla n hn)), hD3, sz5 (by rw [vS_len, List.length_map]; omega), fun p hp => k p _ (((e1.trans e2).trans e3).trans (Le.new hp)) (((e1.trans e2).trans e3).fr0 hp) ?_⟩
          unfold Tb.next
          rw [hs, if_pos rfl, vS_app]
          exact upd_same
  exact ⟨⟨_, fd, G, T.m_Table_next_of, T.cl_Table, F.bindsN (ps := ["self", "name"]) fun _ _ _ _ _ _ us hl => match us, hl with | [_, _], _ => rfl⟩⟩

end
end Sw
set_option linter.all false
set_option maxRecDepth 100000
set_option maxHeartbeats 2000000
/-! Further rules: stars, dict comprehensions. -/
namespace Sw
open PySem PySem.Spec PyProof.Rows L2 LamX
section
variable (K : PySem.W.Frag) {X : Cx} {e : Expr} {es : List Expr} {p : Pos} {te : TE} {t : TA}
theorem wstar (he : PE X e te) (hr : PA X es t) (hs : starEach (.Starred e p :: es) X.env = (true, eval e X.env) :: starEach es X.env := by rfl) (hK : X.K = K := by rfl) : PA X (.Starred e p :: es) (StX.tStar K te t) := by
  subst hK; exact StX.pa_star he hr hs
end
/-- x is True, x a Bool or None -/
theorem op_isOB {X : Cx} : OpR X (compareOp .Is) (fun x y H Q => ∃ o, x = optB o ∧ y = .bl true ∧ Q (.bl (decide (o = some true))) H) := by
  intro pins s σ H x y v u Q I rx ry h
  obtain ⟨o, rfl, rfl, q⟩ := h
  cases (show u = Value.bool true from ry)
  cases o with
  | none =>
    cases (show v = Value.none from rx)
    exact wpAny_is_other rfl (fun z => by cases z) ⟨.bl false, H, I, rfl, by simpa using q⟩
  | some b =>
    cases (show v = Value.bool b from rx)
    cases b with
    | true => exact wpAny_is_self rfl ⟨.bl true, H, I, rfl, by simpa using q⟩
    | false => exact wpAny_is_other rfl (fun z => by cases z) ⟨.bl false, H, I, rfl, by simpa using q⟩
theorem pe_roads {X : Cx} (T : Tx X.K X.mg) {y q : Str} {c P : Addr} {k j : Nat} {params : Arguments} {body e : Expr} {scope : Scope} {te t : TE} {p lpos pos : Pos} (hg : Gl X "roads_from") (TB : TabB X.base X.mg c P) (hcode : X.env.code = .ref c) (hq : X.env.qual ++ "<lambda>" = q)
    (hmT : (P, q) ∈ TBS) (hu : ∀ p ∈ TBS, p.1 = P → p.2 = q) (hr : Room (k + 2) X.A) (L : LamP y X.env.scope scope) (hj : X.N[j]? = some y) (hND : X.N.Nodup) (hdef : defaultsOf params X.env = ([], []))
    (hbind : ∀ (q : Str) (cl : List (Str × Addr)) (pm cv ctv u : Value), bindArgs (PySem.W.kla_fn "<lambda>" q params body scope cl pm cv ctv) ⟨[u], []⟩ = pure [(y, u)]) (he : PE X e te)
    (hbody : ∀ (A : Around) (outer : List Env) (s : Shared) (H : Hp) (f c' : Addr), Room k (A.deeper (lamEnv X scope s.heap.objs.size f c')) → PE (lamC X A outer s H scope f c') body t)
    (hs : starEach (e :: [.Lambda params body scope lpos]) X.env = (false, eval e X.env) :: starEach [.Lambda params body scope lpos] X.env := by rfl) :
    PE X (.Call (.Name "roads_from" p) [e, .Lambda params body scope lpos] [] pos) (tLam1 j te TRoads t) := by
  subst hq
  obtain ⟨fd, F⟩ := T.fn _ fi_roads_from
  have b : L2.Binds X.K fd ["start", "next_of"] [] := F.bindsN (ps := ["start", "next_of"]) fun _ _ _ _ _ _ us hl => match us, hl with | [_, _], _ => rfl
  obtain ⟨oc, od, dV, kV, doc, pm, an, cdv, ct, osl, rfl, lk, hcd, _, _⟩ := F.ex
  exact pe_lam1 (Ng := ["start", "next_of", "found", "at", "here", "other"]) (i := 1) (h := 4) (a := "next_of") (b := "here") hg T.g_roads_from F.kp lk hcd b sc_roads_from rfl (.inl (by decide +kernel)) rfl (.inl (by decide +kernel)) (roads_gives T) TB hcode hmT hu hr L hj hND hdef hbind he hbody hs
section
variable {J : It} {n : Nat} {G : Hp → Prop} {Y : Nat → Hp → V → Hp → Prop}
theorem dc_it (w : Walk J n G Y) {g : TG} {tt : L2.TT} {tk tv : TE} {vs : List Nat} {σ : St} {H1 : Hp} {D : Addr} {Qd : Hp → Prop} (Pv : Nat → Hp → Prop) (h0 : Pv 0 (upd H1 D (.dK []))) (hG : ∀ i H, i ≤ n → Pv i H → G H)
    (hs : ∀ i x H H', i < n → Pv i H → Y i H x H' → g x (wipe σ vs) H' fun σ2 H2 => wipe σ2 vs = wipe σ vs ∧ tt σ2 H2 fun b H3 =>
      if b = true then tk σ2 H3 fun y H4 => tv σ2 H4 fun z H5 => ∃ kvs k, y = kV k ∧ H5 D = some (.dK kvs) ∧ kvs.length < sizeLine ∧ Pv (i + 1) (upd H5 D (.dK (putK kvs k z))) else Pv (i + 1) H3) (hd : ∀ H, Pv n H → Qd H) :
    ∃ W : Nat → Nat → Hp → Prop, (∃ m, W 0 m (upd H1 D (.dK []))) ∧ ∀ i m H, W i m H →
      (J.stop i H ∧ Qd H) ∨ (J.go i H ∧ ∃ Nx : Hp → Prop, (∀ H', Nx H' → ∃ m', m' < m ∧ W (i + 1) m' H') ∧ ∀ x H', J.yld i H x H' → g x (wipe σ vs) H' fun σ2 H2 => wipe σ2 vs = wipe σ vs ∧ tt σ2 H2 fun b H3 =>
        if b = true then tk σ2 H3 fun y H4 => tv σ2 H4 fun z H5 => ∃ kvs k, y = kV k ∧ H5 D = some (.dK kvs) ∧ kvs.length < sizeLine ∧ Nx (upd H5 D (.dK (putK kvs k z))) else Nx H3) :=
  ⟨fun i m H => m = n - i ∧ i ≤ n ∧ Pv i H, ⟨n, by simp, Nat.zero_le _, h0⟩, by
    rintro i m H ⟨rfl, hi, p⟩
    by_cases hlt : i < n
    · exact .inr ⟨w.goes i H hlt (hG i H hi p), Pv (i + 1), fun H' p' => ⟨n - (i + 1), by omega, rfl, hlt, p'⟩, fun x H' y => hs i x H H' hlt p (w.yields i H x H' hlt (hG i H hi p) y)⟩
    · obtain rfl : i = n := by omega
      exact .inl ⟨w.stops H (hG _ H hi p), hd H p⟩⟩
end
/-- a dict of names, all True -/
def kvT (l : List Str) : List (Key × V) := l.map fun n => (Sum.inr n, V.bl true)
theorem kvT_put (l : List Str) (o : Str) : ∃ l', putK (kvT l) (Sum.inr o) (.bl true) = kvT l' ∧ (∀ x, x ∈ l' ↔ x ∈ l ∨ x = o) ∧ l'.length ≤ l.length + 1 := by
  by_cases h : o ∈ l
  · refine ⟨l, ?_, fun x => ⟨.inl, fun z => z.elim id fun e => by rw [e]; exact h⟩, Nat.le_succ _⟩
    have e : ((kvT l).any fun kv => decide (kv.1 = Sum.inr o)) = true := List.any_eq_true.mpr ⟨_, List.mem_map.mpr ⟨o, h, rfl⟩, decide_eq_true rfl⟩
    unfold putK
    rw [e, if_pos rfl]
    unfold kvT
    rw [List.map_map]
    refine List.map_congr_left fun n _ => ?_
    show (if (Sum.inr n : Key) = Sum.inr o then _ else _) = _
    split <;> rfl
  · refine ⟨l ++ [o], ?_, fun x => by simp, by simp⟩
    have e : ((kvT l).any fun kv => decide (kv.1 = Sum.inr o)) = false := by
      rw [List.any_eq_false]
      intro x hx
      obtain ⟨n, hn, rfl⟩ := List.mem_map.mp hx
      intro z
      exact h (by rw [← Sum.inr.inj (of_decide_eq_true z : (Sum.inr n : Key) = Sum.inr o)]; exact hn)
    unfold putK
    rw [e, if_neg Bool.false_ne_true]
    unfold kvT
    rw [List.map_append]
    rfl
theorem kvT_len (l : List Str) : (kvT l).length = l.length := List.length_map ..
/-- the classes held: a dict of names -/
def HeldAt (H : Hp) (h : Addr) (l : List Str) : Prop := H h = some (.dK (kvT l))
theorem held_in {H : Hp} {h : Addr} {l : List Str} (a : HeldAt H h l) (n : Str) : ∃ o, DGet H h (.str n) o ∧ o.isSome = l.contains n := by
  refine ⟨_, .inl ⟨_, Sum.inr n, .inl a, rfl, rfl⟩, ?_⟩
  by_cases hn : n ∈ l
  · rw [show valV (kvT l) (Sum.inr n) = _ from valV_kv hn, List.contains_iff_mem.mpr hn]
    rfl
  · rw [show valV (kvT l) (Sum.inr n) = none from valV_kv_no hn]
    exact (Bool.eq_false_iff.mpr fun z => hn (List.contains_iff_mem.mp z)).symm
end Sw
set_option linter.all false
set_option maxRecDepth 100000
set_option maxHeartbeats 4000000
/-! SwF4: roads in held classes. Terms printed by gen_term.py. -/
namespace Sw
open PySem PySem.Spec PyProof.Rows L2 LamX
section
variable {P : Program} {w : World} {K : PySem.W.Frag} {mg : Str → Option Value} {base : Heap}


def spHeld : Sp := fun vs H Q _ => ∃ t U c d, vs = [.ref t, .str c, .str d] ∧ TabAt H t U ∧ U.Ok ∧ c ∈ U.names ∧ d ∈ U.names ∧ ∀ p H' l, Le H H' → HeldAt H' p l → (∀ x, x ∈ l ↔ x ∈ (U.cl c).line ∨ x ∈ (U.cl d).line) → Q (.ref p) H'
def spDecl : Sp := fun vs H Q _ => ∃ t U n mt ms, vs = [.ref t, .str n, .ref mt] ∧ TabAt H t U ∧ U.Ok ∧ n ∈ U.names ∧ H mt = some (.tup (vS ms)) ∧ ∀ H', Le H H' → Q (.bl (U.decl n ms)) H'
def spNextIn : Sp := fun vs H Q _ => ∃ t U h l n, vs = [.ref t, .ref h, .str n] ∧ TabAt H t U ∧ U.Ok ∧ n ∈ U.names ∧ HeldAt H h l ∧ ∀ p H', Le H H' → H' p = some (.lst (vS ((U.next n).filter fun o => l.contains o))) → Q (.ref p) H'

theorem Tb.Ok.next_len {U : Tb} (ok : U.Ok) {n : Str} (hn : n ∈ U.names) : (U.next n).length ≤ 100000 := by
  unfold Tb.next
  split
  · rw [List.length_append]
    have h1 := ok.rsz n hn
    have h2 := List.length_filter_le (fun o => !(U.ls n).contains o) (U.below n)
    have h3 : (U.below n).length ≤ U.names.length := List.length_filter_le ..
    have h4 := ok.sz
    omega
  · exact Nat.zero_le _

theorem sc_held_by : FnScope ["table", "cls", "other", "name"] ["table", "cls", "other"] (defScope s_held_by) := ⟨rfl, rfl, rfl, by decide +kernel, rfl, by decide +kernel, by decide +kernel⟩
theorem ok_held_by (T : Tx K mg)  : Cal P w K mg base "held_by" 1 ["table", "cls", "other"] spHeld := by
  obtain ⟨fd, F⟩ := T.fn _ fi_held_by
  have G : FnOk P w K mg base CX0 1 d_held_by.f fd ["table", "cls", "other"] spHeld := by
    refine F.ok sc_held_by (fun vs H Q E h => ?_) (fun cdv A outer s H vs Q E hr h => ⟨_, PSs.nox (X := cxOf CX0 P w K mg base _ _ _ _ cdv A outer s H E) ((pss_one (ps_ret (pe_dc (own := [("name", 3)]) rfl sc_held_by.nd (wlist K (pe_lst (wstar K (wfld K (pe_dget (hu_of hr) (wfld K (pv 0) rfl) (pv 1) (fun _ _ => rfl)) rfl) (wstar K (wfld K (pe_dget (hu_of hr) (wfld K (pv 0) rfl) (pv 2) (fun _ _ => rfl)) rfl) pa_nil)))) (blkOk_by (N := ["table", "cls", "other", "name"]) (sc := defScope s_held_by) (own := [("name", 3)]) (by decide +kernel)) (fun _ _ _ _ _ => (pg_name (i := 3) sc_held_by.nd rfl (Or.inl rfl))) (fun _ _ _ _ _ => pts_nil) (fun _ _ _ _ _ => (pv 3)) (fun _ _ _ _ _ => pe_bl))))), ?_⟩)
    · obtain ⟨_, _, _, _, rfl, _⟩ := h
      rfl
    · obtain ⟨t, U, c, d, rfl, ⟨dx, r, nb, l, mk, ht, ⟨ad, hr0, hE⟩, hN, hL⟩, ok, hc, hd, k⟩ := h
      obtain ⟨dxc, tpc, mkc, hvc, lnc, hec, _, _, _, hlc⟩ := (hE c hc).ex
      obtain ⟨dxd, tpd, mkd, hvd, lnd, hed, _, _, _, hld⟩ := (hE d hd).ex
      have zc := ok.lsz c hc
      have zd := ok.lsz d hd
      refine ⟨_, rfl, _, cTable, dx, _, _, rfl, ht, T.cl_Table, T.n_Table_records, fsT_records, _, rfl, r, _, rfl, dget_kv (.inl hr0) hc, _, cEntry, dxc, _, _, rfl, hec, T.cl_Entry, T.n_Entry_line, fsE_line, lnc, _, rfl, .inr (SqL.of hlc),
        _, rfl, _, cTable, dx, _, _, rfl, ht, T.cl_Table, T.n_Table_records, fsT_records, _, rfl, r, _, rfl, dget_kv (.inl hr0) hd, _, cEntry, dxd, _, _, rfl, hed, T.cl_Entry, T.n_Entry_line, fsE_line, lnd, _, rfl, .inr (SqL.of hld), ?_⟩
      have ev : vS (U.cl c).line ++ (vS (U.cl d).line ++ []) = vS ((U.cl c).line ++ (U.cl d).line) := by rw [List.append_nil, vS_app]
      show (vS (U.cl c).line ++ (vS (U.cl d).line ++ [])).length ≤ sizeLine ∧ _
      rw [ev]
      refine ⟨sz5 (by rw [vS_len, List.length_append]; omega), fun q hq => ⟨q, rfl, ⟨_, SqL.of upd_same⟩, fun D hD => ?_⟩⟩
      generalize hll : (U.cl c).line ++ (U.cl d).line = ll
      have hz : ll.length ≤ 40 := by rw [← hll, List.length_append]; omega
      rw [hll] at hD
      refine dc_it (ws_list (K := K) (a := q) (l := ll)) (fun i H' => Le (upd H q (.lst (vS ll))) H' ∧ ∃ l', H' D = some (.dK (kvT l')) ∧ (∀ x, x ∈ l' ↔ x ∈ ll.take i) ∧ l'.length ≤ i) ⟨Le.new hD, [], upd_same, by simp, Nat.zero_le _⟩ (fun i H' _ p => SqL.of (p.1.at upd_same)) ?_ ?_
      · rintro i x Ha Hb hi ⟨e, l', h1, h2, h3⟩ ⟨rfl, z, hz2, rfl⟩
        obtain ⟨l2, p1, p2, p3⟩ := kvT_put l' z
        refine ⟨rfl, _, rfl, kvT l', Sum.inr z, rfl, h1, sz5' (by rw [kvT_len]; omega), e.mut hD h1 rfl, l2, by rw [p1]; exact upd_same, fun x => ?_, by omega⟩
        rw [p2 x, h2 x, take_snoc hz2, List.mem_append, List.mem_singleton]
      · rintro H' ⟨e, l', h1, h2, h3⟩
        refine k D H' l' ((Le.new hq).trans e) h1 fun x => ?_
        rw [h2 x, List.take_length, ← hll, List.mem_append]
  exact ⟨⟨_, fd, G, T.g_held_by, F.kp, F.bindsN (ps := ["table", "cls", "other"]) fun _ _ _ _ _ _ us hl => match us, hl with | [_, _, _], _ => rfl⟩⟩

theorem sc_declines : FnScope ["table", "name", "methods"] ["table", "name", "methods"] (defScope s_declines) := ⟨rfl, rfl, rfl, by decide +kernel, rfl, by decide +kernel, by decide +kernel⟩
theorem ok_declines (T : Tx K mg) (c_Table_sworn : CalM P w K mg base cTable "sworn" 2 ["self", "name"] spTSworn) (c_Table_answer_for : CalM P w K mg base cTable "answer_for" 3 ["self", "name", "methods"] spTAns) : Cal P w K mg base "declines" 4 ["table", "name", "methods"] spDecl := by
  obtain ⟨fd, F⟩ := T.fn _ fi_declines
  have G : FnOk P w K mg base CX0 4 d_declines.f fd ["table", "name", "methods"] spDecl := by
    refine F.ok sc_declines (fun vs H Q E h => ?_) (fun cdv A outer s H vs Q E hr h => ⟨_, PSs.nox (X := cxOf CX0 P w K mg base _ _ _ _ cdv A outer s H E) ((pss_one (ps_ret (pe_and (pm c_Table_sworn (hr.mono (by decide : 2 ≤ _)) (pv 0) (pa_cons (pv 1) pa_nil)) (pe_one (pe_cmpR op_isN (pm c_Table_answer_for hr (pv 0) (pa_cons (pv 1) (pa_cons (pv 2) pa_nil))) pe_non (nomark _))))))), ?_⟩)
    · obtain ⟨_, _, _, _, _, rfl, _⟩ := h
      rfl
    · obtain ⟨t, U, n, mt, ms, rfl, R, ok, hn, hm, k⟩ := h
      obtain ⟨dx, r, nb, l, mk, ht⟩ := R.ins
      refine ⟨_, rfl, t, dx, _, rfl, ht, fsT_no_sworn, _, rfl, t, U, n, rfl, R, ok, hn, fun H1 e1 => ⟨_, rfl, ?_⟩⟩
      cases hs : U.sworn n with
      | false =>
        refine iteF ?_
        have q := k H1 e1
        unfold Tb.decl at q
        rw [hs] at q
        exact q
      | true =>
        refine iteT ⟨_, rfl, t, dx, _, rfl, e1.at ht, fsT_no_answer_for, _, rfl, _, rfl, t, U, n, mt, ms, rfl, R.mono e1, ok, hn, e1.at hm, fun H2 e2 => ⟨rfl, ?_⟩⟩
        have q := k H2 (e1.trans e2)
        unfold Tb.decl at q
        rw [hs, Bool.true_and] at q
        have e : decide (optB (U.ans n ms) = V.non) = decide (U.ans n ms = none) := by
          cases U.ans n ms with
          | none => rfl
          | some b => rfl
        rw [e]
        exact q
  exact ⟨⟨_, fd, G, T.g_declines, F.kp, F.bindsN (ps := ["table", "name", "methods"]) fun _ _ _ _ _ _ us hl => match us, hl with | [_, _, _], _ => rfl⟩⟩

theorem sc_next_in : FnScope ["table", "held", "name", "other"] ["table", "held", "name"] (defScope s_next_in) := ⟨rfl, rfl, rfl, by decide +kernel, rfl, by decide +kernel, by decide +kernel⟩
theorem ok_next_in (T : Tx K mg) (c_Table_next_of : CalM P w K mg base cTable "next_of" 3 ["self", "name"] spTNext) : Cal P w K mg base "next_in" 4 ["table", "held", "name"] spNextIn := by
  obtain ⟨fd, F⟩ := T.fn _ fi_next_in
  have G : FnOk P w K mg base CX0 4 d_next_in.f fd ["table", "held", "name"] spNextIn := by
    refine F.ok sc_next_in (fun vs H Q E h => ?_) (fun cdv A outer s H vs Q E hr h => ⟨_, PSs.nox (X := cxOf CX0 P w K mg base _ _ _ _ cdv A outer s H E) ((pss_one (ps_ret (pe_lc (own := [("other", 3)]) rfl sc_next_in.nd (wlist K (pm c_Table_next_of hr (pv 0) (pa_cons (pv 2) pa_nil))) (blkOk_by (N := ["table", "held", "name", "other"]) (sc := defScope s_next_in) (own := [("other", 3)]) (by decide +kernel)) (fun _ _ _ _ _ => (pg_name (i := 3) sc_next_in.nd rfl (Or.inl rfl))) (fun _ _ _ _ _ => (pts_one (pt_cmp (pc_din (hu_of hr) (pv 3) (pv 1)) rfl))) (fun _ _ _ _ _ => (pv 3)))))), ?_⟩)
    · obtain ⟨_, _, _, _, _, rfl, _⟩ := h
      rfl
    · obtain ⟨t, U, h, l, n, rfl, R, ok, hn, hh, k⟩ := h
      obtain ⟨dx, r, nb, ll, mk, ht⟩ := R.ins
      refine ⟨_, rfl, t, dx, _, rfl, ht, fsT_no_next_of, _, rfl, t, U, n, rfl, R, ok, hn, fun p H1 e1 _ hp => ⟨p, rfl, ⟨_, SqL.of hp⟩, fun D hD => ?_⟩⟩
      refine lc_S (ws_list (K := K) (a := p) (l := U.next n)) (fun o => l.contains o) V.str (ok.next_len hn) hD (fun H' e => SqL.of (e.at hp)) ?_ ?_
      · intro z hz Hb e _ QF QT h1 h2
        obtain ⟨o, ho, hs⟩ := held_in ((show HeldAt Hb h l from e.at (e1.at hh))) z
        refine ⟨rfl, _, rfl, _, rfl, h, o, rfl, ho, _, rfl, ?_⟩
        rw [hs]
        cases hq : l.contains z with
        | true => exact iteT ⟨_, rfl, h2 Hb (Le.refl _) hq⟩
        | false => exact iteF (h1 Hb (Le.refl _) hq)
      · intro H2 e hD2
        exact k D H2 (e1.trans e) hD2
  exact ⟨⟨_, fd, G, T.g_next_in, F.kp, F.bindsN (ps := ["table", "held", "name"]) fun _ _ _ _ _ _ us hl => match us, hl with | [_, _, _], _ => rfl⟩⟩

end
end Sw
set_option linter.all false
set_option maxRecDepth 100000
set_option maxHeartbeats 4000000
/-! SwF5: what is led to, outcomes, states. Terms printed by gen_term.py. -/
namespace Sw
open PySem PySem.Spec PyProof.Rows L2 LamX
section
variable {P : Program} {w : World} {K : PySem.W.Frag} {mg : Str → Option Value} {base : Heap}


def Tb.nin (U : Tb) (l : List Str) (u : Str) : List Str := (U.next u).filter fun o => l.contains o
def Tb.led (U : Tb) (l ms : List Str) (u : Str) : List Str := if U.decl u ms = true then U.nin l u else []
abbrev Tb.Led (U : Tb) (l ms : List Str) (c x : Str) : Prop := Rch (fun u v => v ∈ U.led l ms u) c x
abbrev Tb.Rd (U : Tb) (l : List Str) (c x : Str) : Prop := Rch (fun u v => v ∈ U.nin l u) c x
theorem Tb.Ok.next_in {U : Tb} (ok : U.Ok) {n m : Str} (hn : n ∈ U.names) (h : m ∈ U.next n) : m ∈ U.names := by
  unfold Tb.next at h
  split at h
  · rcases List.mem_append.mp h with z | z
    · exact ok.reg n hn m z
    · exact (List.mem_filter.mp (List.mem_filter.mp z).1).1
  · cases h
def spLed : Sp := fun vs H Q _ => ∃ t U h l c mt ms, vs = [.ref t, .ref h, .str c, .ref mt] ∧ Tabs TBS H ∧ TabAt H t U ∧ U.Ok ∧ c ∈ U.names ∧ HeldAt H h l ∧ H mt = some (.tup (vS ms)) ∧ ∀ p H' es, Le H H' → H' p = some (.lst (vS es)) → es.length ≤ 20 → (∀ x ∈ es, x ∈ U.names) → (∀ x, x ∈ es ↔ U.Led l ms c x) → Q (.ref p) H'
def spRoad : Sp := fun vs H Q _ => ∃ t U h l c d, vs = [.ref t, .ref h, .str c, .str d] ∧ Tabs TBS H ∧ TabAt H t U ∧ U.Ok ∧ c ∈ U.names ∧ d ∈ U.names ∧ HeldAt H h l ∧ ∀ b H', Le H H' → (b = true ↔ U.sworn d = true ∧ U.Rd l c d) → Q (.bl b) H'


theorem Tb.Ok.nin_in {U : Tb} (ok : U.Ok) {l : List Str} {n m : Str} (hn : n ∈ U.names) (h : m ∈ U.nin l n) : m ∈ U.names := ok.next_in hn (List.mem_filter.mp h).1

theorem sc_led_to : FnScope ["table", "held", "cls", "methods", "name"] ["table", "held", "cls", "methods"] (defScope s_led_to) := ⟨rfl, rfl, rfl, by decide +kernel, rfl, by decide +kernel, by decide +kernel⟩
theorem ok_led_to (T : Tx K mg) (c_declines : Cal P w K mg base "declines" 4 ["table", "name", "methods"] spDecl) (c_next_in : Cal P w K mg base "next_in" 4 ["table", "held", "name"] spNextIn) (TB : ∀ p ∈ tbL, TabB base mg p.1 p.2) : Cal P w K mg base "led_to" 7 ["table", "held", "cls", "methods"] spLed := by
  obtain ⟨fd, F⟩ := T.fn _ fi_led_to
  have G : FnOk P w K mg base CX0 7 d_led_to.f fd ["table", "held", "cls", "methods"] spLed := by
    refine FunD.okC T (c := 418) (by decide) F sc_led_to (fun vs H Q E h => ?_) (fun A outer s H vs Q E hr h => ⟨_, PSs.nox (X := cxOf CX0 P w K mg base _ _ _ _ (.ref 418) A outer s H E) ((pss_one (ps_ret (pe_callTy (call_list_dK rfl) (by rfl) T.f_list bb_list (pa_cons (pe_roads T (y := "name") (q := "led_to.<locals>.<lambda>") (j := 4) rfl (TB (tbL.getD 0 (0, 0)) (by decide)) rfl (by kernel_rfl) (by decide) (by decide) hr (lamP_by (sc := defScope s_led_to) (by decide +kernel)) rfl sc_led_to.nd rfl (fun _ _ _ _ _ _ => rfl) (pv 2) (fun _ _ _ _ _ _ hr => (pe_ifExp (pt_val (pc c_declines (hr.mono (by decide : 4 ≤ _)) rfl (pa_cons (pv 0) (pa_cons (pv 4) (pa_cons (pv 3) pa_nil))))) (pc c_next_in (hr.mono (by decide : 4 ≤ _)) rfl (pa_cons (pv 0) (pa_cons (pv 1) (pa_cons (pv 4) pa_nil)))) (pe_lst pa_nil)))) pa_nil))))), ?_⟩)
    · obtain ⟨_, _, _, _, _, _, _, rfl, _⟩ := h
      rfl
    · obtain ⟨t, U, h, l, c, mt, ms, rfl, tb, R, ok, hc, hh, hm, k⟩ := h
      refine ⟨_, rfl, tb, fun H1 e1 => ⟨c, U.names, U.led l ms, rfl, hc, ok.sz, fun n hn m h => ?_, fun n hn H2 e2 Q' kq => ?_, fun d H3 es fa e3 _ hd hz hin hrc => ?_⟩⟩
      · unfold Tb.led at h
        split at h
        · exact ok.nin_in hn h
        · cases h
      · have e12 := e1.trans e2
        refine ⟨_, rfl, _, rfl, _, rfl, t, U, n, mt, ms, rfl, R.mono e12, ok, hn, e12.at hm, fun H3 e3 => ⟨_, rfl, ?_⟩⟩
        cases hq : U.decl n ms with
        | true =>
          refine iteT ⟨_, rfl, _, rfl, _, rfl, t, U, h, l, n, rfl, R.mono (e12.trans e3), ok, hn, (e12.trans e3).at hh, fun p H4 e4 hp => kq p H4 (e3.trans e4) ?_⟩
          unfold Tb.led
          rw [hq, if_pos rfl]
          exact hp
        | false =>
          refine iteF ⟨(Nat.zero_le _ : 0 ≤ sizeLine), fun p hp => kq p _ (e3.trans (Le.new hp)) ?_⟩
          unfold Tb.led
          rw [hq, if_neg Bool.false_ne_true]
          exact upd_same
      · refine ⟨d, _, rfl, hd, fun q hq => ?_⟩
        exact k q _ es ((e1.trans e3).trans (Le.new hq)) (by rw [upd_same, kvR_keys]) hz hin hrc
  exact ⟨⟨_, fd, G, T.g_led_to, F.kp, F.bindsN (ps := ["table", "held", "cls", "methods"]) fun _ _ _ _ _ _ us hl => match us, hl with | [_, _, _, _], _ => rfl⟩⟩

theorem sc_has_road : FnScope ["table", "held", "cls", "other", "name"] ["table", "held", "cls", "other"] (defScope s_has_road) := ⟨rfl, rfl, rfl, by decide +kernel, rfl, by decide +kernel, by decide +kernel⟩
theorem ok_has_road (T : Tx K mg) (c_Table_sworn : CalM P w K mg base cTable "sworn" 2 ["self", "name"] spTSworn) (c_next_in : Cal P w K mg base "next_in" 4 ["table", "held", "name"] spNextIn) (TB : ∀ p ∈ tbL, TabB base mg p.1 p.2) : Cal P w K mg base "has_road" 7 ["table", "held", "cls", "other"] spRoad := by
  obtain ⟨fd, F⟩ := T.fn _ fi_has_road
  have G : FnOk P w K mg base CX0 7 d_has_road.f fd ["table", "held", "cls", "other"] spRoad := by
    refine FunD.okC T (c := 435) (by decide) F sc_has_road (fun vs H Q E h => ?_) (fun A outer s H vs Q E hr h => ⟨_, PSs.nox (X := cxOf CX0 P w K mg base _ _ _ _ (.ref 435) A outer s H E) ((pss_one (ps_ret (pe_and (pm c_Table_sworn (hr.mono (by decide : 2 ≤ _)) (pv 0) (pa_cons (pv 3) pa_nil)) (pe_one (pe_cmp (pc_din (hu_of hr) (pv 3) (pe_roads T (y := "name") (q := "has_road.<locals>.<lambda>") (j := 4) rfl (TB (tbL.getD 1 (0, 0)) (by decide)) rfl (by kernel_rfl) (by decide) (by decide) hr (lamP_by (sc := defScope s_has_road) (by decide +kernel)) rfl sc_has_road.nd rfl (fun _ _ _ _ _ _ => rfl) (pv 2) (fun _ _ _ _ _ _ hr => (pc c_next_in (hr.mono (by decide : 4 ≤ _)) rfl (pa_cons (pv 0) (pa_cons (pv 1) (pa_cons (pv 4) pa_nil))))))) rfl)))))), ?_⟩)
    · obtain ⟨_, _, _, _, _, _, rfl, _⟩ := h
      rfl
    · obtain ⟨t, U, h, l, c, d, rfl, tb, R, ok, hc, hd, hh, k⟩ := h
      obtain ⟨dx, r, nb, ll, mk, ht⟩ := R.ins
      refine ⟨_, rfl, t, dx, _, rfl, ht, fsT_no_sworn, _, rfl, t, U, d, rfl, R, ok, hd, fun H0 e0 => ⟨_, rfl, ?_⟩⟩
      cases hs : U.sworn d with
      | false => exact iteF (k false H0 e0 ⟨fun z => (by cases z), fun z => by rw [hs] at z; cases z.1⟩)
      | true =>
        refine iteT ⟨_, rfl, _, rfl, e0.tab tb, fun H1 e1 => ⟨c, U.names, U.nin l, rfl, hc, ok.sz, fun n hn m h => ok.nin_in hn h, fun n hn H2 e2 Q' kq => ?_, fun q H3 es fa e3 _ hq hz hin hrc => ?_⟩⟩
        · have e12 := (e0.trans e1).trans e2
          exact ⟨_, rfl, _, rfl, _, rfl, t, U, h, l, n, rfl, R.mono e12, ok, hn, e12.at hh, kq⟩
        · refine ⟨q, _, rfl, .inl ⟨_, Sum.inr d, .inl hq, rfl, rfl⟩, ?_⟩
          have e03 := (e0.trans e1).trans e3
          by_cases hdm : d ∈ es
          · rw [show valV (kvR es fa) (Sum.inr d) = _ from valV_kv hdm]
            exact k true H3 e03 ⟨fun _ => ⟨hs, (hrc d).1 hdm⟩, fun _ => rfl⟩
          · rw [kvR_in.mpr hdm]
            exact k false H3 e03 ⟨fun z => (by cases z), fun z => absurd ((hrc d).2 z.2) hdm⟩
  exact ⟨⟨_, fd, G, T.g_has_road, F.kp, F.bindsN (ps := ["table", "held", "cls", "other"]) fun _ _ _ _ _ _ us hl => match us, hl with | [_, _, _, _], _ => rfl⟩⟩

end
end Sw
set_option linter.all false
set_option maxRecDepth 100000
set_option maxHeartbeats 4000000
/-! SwF6: outcomes, states. Terms printed by gen_term.py. -/
namespace Sw
open PySem PySem.Spec PyProof.Rows L2 LamX
section
variable {P : Program} {w : World} {K : PySem.W.Frag} {mg : Str → Option Value} {base : Heap}


def Tb.reached (U : Tb) (es : List Str) (d : Str) (ms : List Str) : Bool := if U.sworn d = true then es.contains d && U.decl d ms else es.any fun x => !U.sworn x && U.above x d
def Tb.wins (U : Tb) (es : List Str) (ms : List Str) : Bool := es.any fun x => U.sworn x && decide (U.ans x ms = some true)
/-- the value of an outcome -/
def Outc (U : Tb) (l : List Str) (c d : Str) (ms : List Str) (v : V) : Prop := (U.decl c ms = false ∧ v = .non) ∨ (U.decl c ms = true ∧ ∃ es : List Str, (∀ x, x ∈ es ↔ U.Led l ms c x) ∧ v = if U.wins es ms = true then .str "won" else if U.reached es d ms = true then .str "reached" else .str "neither")
def spReached : Sp := fun vs H Q _ => ∃ t U ep es d mt ms, vs = [.ref t, .ref ep, .str d, .ref mt] ∧ TabAt H t U ∧ U.Ok ∧ d ∈ U.names ∧ H ep = some (.lst (vS es)) ∧ es.length ≤ 20 ∧ (∀ x ∈ es, x ∈ U.names) ∧ H mt = some (.tup (vS ms)) ∧ ∀ H', Le H H' → Q (.bl (U.reached es d ms)) H'
def spOutc : Sp := fun vs H Q _ => ∃ t U h l c d mt ms, vs = [.ref t, .ref h, .str c, .str d, .ref mt] ∧ Tabs TBS H ∧ TabAt H t U ∧ U.Ok ∧ c ∈ U.names ∧ d ∈ U.names ∧ HeldAt H h l ∧ H mt = some (.tup (vS ms)) ∧ ∀ v H', Le H H' → Outc U l c d ms v → Q v H'
/-- the patterns' list -/
def PatsAt (H : Hp) (p : Addr) (ps : List (List Str)) : Prop := ∃ rs, H p = some (.lst rs) ∧ Paired (fun ms v => ∃ a, v = .ref a ∧ H a = some (.tup (vS ms))) ps rs
structure StateAt (H : Hp) (v : V) (U : Tb) (c d : Str) (ps : List (List Str)) : Prop where
  ex : ∃ tp lo vs b l, v = .ref tp ∧ H tp = some (.tup [.ref lo, .bl b]) ∧ H lo = some (.lst vs) ∧ (∀ x, x ∈ l ↔ x ∈ (U.cl c).line ∨ x ∈ (U.cl d).line) ∧ Paired (fun ms v => Outc U l c d ms v) ps vs ∧ (b = true ↔ U.sworn d = true ∧ U.Rd l c d)
def spState : Sp := fun vs H Q _ => ∃ t U c d pl ps, vs = [.ref t, .str c, .str d, .ref pl] ∧ Tabs TBS H ∧ TabAt H t U ∧ U.Ok ∧ c ∈ U.names ∧ d ∈ U.names ∧ PatsAt H pl ps ∧ ps.length ≤ 1000 ∧ ∀ v H', Le H H' → StateAt H' v U c d ps → Q v H'
theorem PatsAt.mono {H H' : Hp} {p : Addr} {ps : List (List Str)} (e : Le H H') (h : PatsAt H p ps) : PatsAt H' p ps := by
  obtain ⟨rs, h1, h2⟩ := h
  exact ⟨rs, e.at h1, Paired.mapP h2 fun _ _ ⟨a, x, y⟩ => ⟨a, x, e.at y⟩⟩
theorem StateAt.mono {H H' : Hp} {v : V} {U : Tb} {c d : Str} {ps : List (List Str)} (e : Le H H') (h : StateAt H v U c d ps) : StateAt H' v U c d ps := by
  obtain ⟨tp, lo, vs, b, l, h1, h2, h3, h4⟩ := h.ex
  exact ⟨tp, lo, vs, b, l, h1, e.at h2, e.at h3, h4⟩


theorem got_paired {α : Type} {ps : List α} {R : α → V → Prop} {ys : List V} {n : Nat} (hn : n = ps.length) (h : Paired (fun i y => ∃ m, ps[i]? = some m ∧ R m y) (List.range n) ys) : Paired R ps ys := by
  have go : ∀ {is : List Nat} {ys : List V}, Paired (fun i y => ∃ m, ps[i]? = some m ∧ R m y) is ys → ∀ l : List α, is.map (fun i => ps[i]?) = l.map some → Paired R l ys := by
    intro is ys h
    induction h with
    | nil =>
      intro l e
      cases l with
      | nil => exact .nil
      | cons a l => cases e
    | cons h t ih =>
      intro l e
      cases l with
      | nil => cases e
      | cons a l =>
        rw [List.map_cons, List.map_cons] at e
        obtain ⟨e1, e2⟩ := List.cons.inj e
        obtain ⟨m, h1, h2⟩ := h
        rw [h1] at e1
        cases e1
        exact .cons h2 (ih l e2)
  refine go h ps ?_
  subst hn
  apply List.ext_getElem
  · simp
  · intro i h1 h2
    simp at h1
    simp [h1]
/-- one more element that is found -/
theorem lc_done {l : List Str} {p : Str → Bool} : (l.map fun z => p z).any id = l.any p := by rw [List.any_map]; rfl

theorem sc_is_reached : FnScope ["table", "ends", "other", "methods", "name"] ["table", "ends", "other", "methods"] (defScope s_is_reached) := ⟨rfl, rfl, rfl, by decide +kernel, rfl, by decide +kernel, by decide +kernel⟩
theorem ok_is_reached (T : Tx K mg) (c_declines : Cal P w K mg base "declines" 4 ["table", "name", "methods"] spDecl) (c_Table_sworn : CalM P w K mg base cTable "sworn" 2 ["self", "name"] spTSworn) (c_Table_is_above : CalM P w K mg base cTable "is_above" 1 ["self", "name", "other"] spTAbove) : Cal P w K mg base "is_reached" 5 ["table", "ends", "other", "methods"] spReached := by
  obtain ⟨fd, F⟩ := T.fn _ fi_is_reached
  have G : FnOk P w K mg base CX0 5 d_is_reached.f fd ["table", "ends", "other", "methods"] spReached := by
    refine F.ok sc_is_reached (fun vs H Q E h => ?_) (fun cdv A outer s H vs Q E hr h => ⟨_, PSs.nox (X := cxOf CX0 P w K mg base _ _ _ _ cdv A outer s H E) ((pss_cons (ps_if (pt_val (pm c_Table_sworn (hr.mono (by decide : 2 ≤ _)) (pv 0) (pa_cons (pv 2) pa_nil))) (pss_one (ps_ret (pe_and (pe_cmpR (win K) (pv 2) (pv 1) rfl) (pe_one (pc c_declines hr rfl (pa_cons (pv 0) (pa_cons (pv 2) (pa_cons (pv 3) pa_nil)))))))) pss_nil)
    (pss_one (ps_ret (pe_callB (wany K rfl) (by rfl) T.f_any bb_any (pa_cons (pe_lc (own := [("name", 4)]) rfl sc_is_reached.nd (wlist K (pv 1)) (blkOk_by (N := ["table", "ends", "other", "methods", "name"]) (sc := defScope s_is_reached) (own := [("name", 4)]) (by decide +kernel)) (fun _ _ _ _ _ => (pg_name (i := 4) sc_is_reached.nd rfl (Or.inl rfl))) (fun _ _ _ _ _ => pts_nil) (fun _ _ _ _ _ => (pe_and (pe_not (pm c_Table_sworn (hr.mono (by decide : 2 ≤ _)) (pv 0) (pa_cons (pv 4) pa_nil))) (pe_one (pm c_Table_is_above (hr.mono (by decide : 1 ≤ _)) (pv 0) (pa_cons (pv 4) (pa_cons (pv 2) pa_nil))))))) pa_nil)))))), ?_⟩)
    · obtain ⟨_, _, _, _, _, _, _, rfl, _⟩ := h
      rfl
    · obtain ⟨t, U, ep, es, d, mt, ms, rfl, R, ok, hd, he, hz, hin, hm, k⟩ := h
      obtain ⟨dx, r, nb, ll, mk, ht⟩ := R.ins
      refine ⟨_, rfl, t, dx, _, rfl, ht, fsT_no_sworn, _, rfl, t, U, d, rfl, R, ok, hd, fun H0 e0 => ⟨_, rfl, ?_⟩⟩
      cases hs : U.sworn d with
      | true =>
        refine iteT ⟨_, rfl, _, rfl, ep, _, rfl, .inl (SqL.of (e0.at he)), rfl, vS_flat _, ?_⟩
        rw [inV_vS]
        refine ⟨_, rfl, ?_⟩
        show if es.contains d = true then _ else _
        cases hq : es.contains d with
        | false =>
          refine iteF ?_
          have q := k H0 e0
          unfold Tb.reached at q
          rw [if_pos hs, hq] at q
          exact q
        | true =>
          refine iteT ⟨_, rfl, _, rfl, _, rfl, t, U, d, mt, ms, rfl, R.mono e0, ok, hd, e0.at hm, fun H1 e1 => ?_⟩
          have q := k H1 (e0.trans e1)
          unfold Tb.reached at q
          rw [if_pos hs, hq] at q
          exact q
      | false =>
        refine iteF ⟨_, rfl, ep, rfl, ⟨_, SqL.of (e0.at he)⟩, fun D hD => ?_⟩
        refine lc_A (ws_list (K := K) (a := ep) (l := es)) (fun x => .bl (!U.sworn x && U.above x d)) (by omega) hD (fun H' e => SqL.of (e.at (e0.at he))) ?_ ?_
        · intro z hzz Hb e _ QF QT h2
          have e0b := e0.trans e
          refine ⟨rfl, _, rfl, t, dx, _, rfl, e0b.at ht, fsT_no_sworn, _, rfl, t, U, z, rfl, R.mono e0b, ok, hin z hzz, fun H1 e1 => ⟨_, rfl, _, rfl, ?_⟩⟩
          cases hq : U.sworn z with
          | true =>
            refine iteF ?_
            have q := h2 H1 e1
            rw [hq] at q
            exact q
          | false =>
            refine iteT ⟨_, rfl, t, dx, _, rfl, (e0b.trans e1).at ht, fsT_no_is_above, _, rfl, _, rfl, t, U, z, d, rfl, R.mono (e0b.trans e1), ok, hd, fun H2 e2 => ?_⟩
            have q := h2 H2 (e1.trans e2)
            rw [hq] at q
            exact q
        · intro H2 e hD2
          refine ⟨D, es.map (fun x => !U.sworn x && U.above x d), rfl, SqL.of (by rw [hD2, List.map_map]; rfl), ?_⟩
          rw [lc_done]
          have q := k H2 (e0.trans e)
          unfold Tb.reached at q
          rw [hs, if_neg Bool.false_ne_true] at q
          exact q
  exact ⟨⟨_, fd, G, T.g_is_reached, F.kp, F.bindsN (ps := ["table", "ends", "other", "methods"]) fun _ _ _ _ _ _ us hl => match us, hl with | [_, _, _, _], _ => rfl⟩⟩

theorem sc_outcome_in : FnScope ["table", "held", "cls", "other", "methods", "ends", "name"] ["table", "held", "cls", "other", "methods"] (defScope s_outcome_in) := ⟨rfl, rfl, rfl, by decide +kernel, rfl, by decide +kernel, by decide +kernel⟩
theorem ok_outcome_in (T : Tx K mg) (c_declines : Cal P w K mg base "declines" 4 ["table", "name", "methods"] spDecl) (c_led_to : Cal P w K mg base "led_to" 7 ["table", "held", "cls", "methods"] spLed) (c_is_reached : Cal P w K mg base "is_reached" 5 ["table", "ends", "other", "methods"] spReached) (c_Table_sworn : CalM P w K mg base cTable "sworn" 2 ["self", "name"] spTSworn) (c_Table_answer_for : CalM P w K mg base cTable "answer_for" 3 ["self", "name", "methods"] spTAns) : Cal P w K mg base "outcome_in" 8 ["table", "held", "cls", "other", "methods"] spOutc := by
  obtain ⟨fd, F⟩ := T.fn _ fi_outcome_in
  have G : FnOk P w K mg base CX0 8 d_outcome_in.f fd ["table", "held", "cls", "other", "methods"] spOutc := by
    refine F.ok sc_outcome_in (fun vs H Q E h => ?_) (fun cdv A outer s H vs Q E hr h => ⟨_, PSs.nox (X := cxOf CX0 P w K mg base _ _ _ _ cdv A outer s H E) ((pss_cons (ps_if (pt_not (pt_val (pc c_declines (hr.mono (by decide : 4 ≤ _)) rfl (pa_cons (pv 0) (pa_cons (pv 2) (pa_cons (pv 4) pa_nil)))))) (pss_one (ps_ret pe_non)) pss_nil)
    (pss_cons (ps_set (i := 5) sc_outcome_in.nd rfl (Or.inl rfl) (pc c_led_to hr rfl (pa_cons (pv 0) (pa_cons (pv 1) (pa_cons (pv 2) (pa_cons (pv 4) pa_nil))))))
    (pss_cons (ps_if (pt_val (pe_callB (wany K rfl) (by rfl) T.f_any bb_any (pa_cons (pe_lc (own := [("name", 6)]) rfl sc_outcome_in.nd (wlist K (pv 5)) (blkOk_by (N := ["table", "held", "cls", "other", "methods", "ends", "name"]) (sc := defScope s_outcome_in) (own := [("name", 6)]) (by decide +kernel)) (fun _ _ _ _ _ => (pg_name (i := 6) sc_outcome_in.nd rfl (Or.inl rfl))) (fun _ _ _ _ _ => pts_nil) (fun _ _ _ _ _ => (pe_and (pm c_Table_sworn (hr.mono (by decide : 2 ≤ _)) (pv 0) (pa_cons (pv 6) pa_nil)) (pe_one (pe_cmpR op_isOB (pm c_Table_answer_for (hr.mono (by decide : 3 ≤ _)) (pv 0) (pa_cons (pv 6) (pa_cons (pv 4) pa_nil))) pe_bl (nomark _)))))) pa_nil))) (pss_one (ps_ret (pgl T.v_WON rfl))) pss_nil)
    (pss_one (ps_ret (pe_ifExp (pt_val (pc c_is_reached (hr.mono (by decide : 5 ≤ _)) rfl (pa_cons (pv 0) (pa_cons (pv 5) (pa_cons (pv 3) (pa_cons (pv 4) pa_nil)))))) (pgl T.v_REACHED rfl) (pgl T.v_NEITHER rfl)))))))), ?_⟩)
    · obtain ⟨_, _, _, _, _, _, _, _, rfl, _⟩ := h
      rfl
    · obtain ⟨t, U, h, l, c, d, mt, ms, rfl, tb, R, ok, hc, hd, hh, hm, k⟩ := h
      refine ⟨_, rfl, _, rfl, _, rfl, t, U, c, mt, ms, rfl, R, ok, hc, hm, fun H0 e0 => ⟨_, rfl, ?_⟩⟩
      cases hq : U.decl c ms with
      | false => exact iteT (k _ _ e0 (.inl ⟨hq, rfl⟩))
      | true =>
        refine iteF ⟨_, rfl, _, rfl, _, rfl, _, rfl, t, U, h, l, c, mt, ms, rfl, e0.tab tb, R.mono e0, ok, hc, e0.at hh, e0.at hm, fun p H1 es e1 hp hz hin hes => ?_⟩
        have e01 := e0.trans e1
        obtain ⟨dx, r, nb, ll, mk, ht⟩ := (R.mono e01).ins
        show gName 5 _ _ _ _
        refine ⟨_, rfl, p, rfl, ⟨_, SqL.of hp⟩, fun D hD => ?_⟩
        refine lc_A (ws_list (K := K) (a := p) (l := es)) (fun x => .bl (U.sworn x && decide (U.ans x ms = some true))) (by omega) hD (fun H' e => SqL.of (e.at hp)) ?_ ?_
        · intro z hzz Hb e _ QF QT h2
          have e0b := e01.trans e
          refine ⟨rfl, _, rfl, t, dx, _, rfl, e.at ht, fsT_no_sworn, _, rfl, t, U, z, rfl, R.mono e0b, ok, hin z hzz, fun H2 e2 => ⟨_, rfl, ?_⟩⟩
          cases hs : U.sworn z with
          | false =>
            refine iteF ?_
            have q := h2 H2 e2
            rw [hs] at q
            exact q
          | true =>
            refine iteT ⟨_, rfl, t, dx, _, rfl, (e.trans e2).at ht, fsT_no_answer_for, _, rfl, _, rfl, t, U, z, mt, ms, rfl, R.mono (e0b.trans e2), ok, hin z hzz, (e0b.trans e2).at hm, fun H3 e3 => ⟨_, rfl, rfl, ?_⟩⟩
            have q := h2 H3 (e2.trans e3)
            rw [hs] at q
            exact q
        · intro H2 e hD2
          refine ⟨D, es.map (fun x => U.sworn x && decide (U.ans x ms = some true)), rfl, SqL.of (by rw [hD2, List.map_map]; rfl), _, rfl, ?_⟩
          rw [lc_done]
          have e02 := e01.trans e
          cases hw : es.any (fun x => U.sworn x && decide (U.ans x ms = some true)) with
          | true =>
            refine iteT ?_
            refine k _ H2 e02 (.inr ⟨hq, es, hes, ?_⟩)
            rw [show U.wins es ms = true from hw]
            rfl
          | false =>
            refine iteF ⟨_, rfl, _, rfl, _, rfl, _, rfl, t, U, p, es, d, mt, ms, rfl, R.mono e02, ok, hd, e.at hp, hz, hin, e02.at hm, fun H3 e3 => ⟨_, rfl, ?_⟩⟩
            have q := fun v hv => k v H3 (e02.trans e3) (.inr ⟨hq, es, hes, hv⟩)
            rw [show U.wins es ms = false from hw] at q
            cases hr2 : U.reached es d ms with
            | true =>
              rw [hr2] at q
              exact iteT (q _ rfl)
            | false =>
              rw [hr2] at q
              exact iteF (q _ rfl)
  exact ⟨⟨_, fd, G, T.g_outcome_in, F.kp, F.bindsN (ps := ["table", "held", "cls", "other", "methods"]) fun _ _ _ _ _ _ us hl => match us, hl with | [_, _, _, _, _], _ => rfl⟩⟩

theorem sc_state_of : FnScope ["table", "cls", "other", "patterns", "held", "outcomes", "methods"] ["table", "cls", "other", "patterns"] (defScope s_state_of) := ⟨rfl, rfl, rfl, by decide +kernel, rfl, by decide +kernel, by decide +kernel⟩
theorem ok_state_of (T : Tx K mg) (c_held_by : Cal P w K mg base "held_by" 1 ["table", "cls", "other"] spHeld) (c_outcome_in : Cal P w K mg base "outcome_in" 8 ["table", "held", "cls", "other", "methods"] spOutc) (c_has_road : Cal P w K mg base "has_road" 7 ["table", "held", "cls", "other"] spRoad) : Cal P w K mg base "state_of" 9 ["table", "cls", "other", "patterns"] spState := by
  obtain ⟨fd, F⟩ := T.fn _ fi_state_of
  have G : FnOk P w K mg base CX0 9 d_state_of.f fd ["table", "cls", "other", "patterns"] spState := by
    refine F.ok sc_state_of (fun vs H Q E h => ?_) (fun cdv A outer s H vs Q E hr h => ⟨_, PSs.nox (X := cxOf CX0 P w K mg base _ _ _ _ cdv A outer s H E) ((pss_cons (ps_set (i := 4) sc_state_of.nd rfl (Or.inr rfl) (pc c_held_by (hr.mono (by decide : 1 ≤ _)) rfl (pa_cons (pv 0) (pa_cons (pv 1) (pa_cons (pv 2) pa_nil)))))
    (pss_cons (ps_setLc (i := 5) (own := [("methods", 6)]) rfl sc_state_of.nd rfl rfl (sw_true rfl rfl rfl (by decide +kernel)) (wlist K (pv 3)) (blkOk_by (N := ["table", "cls", "other", "patterns", "held", "outcomes", "methods"]) (sc := defScope s_state_of) (own := [("methods", 6)]) (by decide +kernel)) (fun _ _ _ _ _ => (pg_name (i := 6) sc_state_of.nd rfl (Or.inl rfl))) (fun _ _ _ _ _ => pts_nil) (fun _ _ _ _ _ => (pc c_outcome_in hr rfl (pa_cons (pv 0) (pa_cons (pv 4) (pa_cons (pv 1) (pa_cons (pv 2) (pa_cons (pv 6) pa_nil))))))))
    (pss_one (ps_ret (pe_tup (pa_cons (pv 5) (pa_cons (pc c_has_road (hr.mono (by decide : 7 ≤ _)) rfl (pa_cons (pv 0) (pa_cons (pv 4) (pa_cons (pv 1) (pa_cons (pv 2) pa_nil))))) pa_nil)))))))), ?_⟩)
    · obtain ⟨_, _, _, _, _, _, rfl, _⟩ := h
      rfl
    · obtain ⟨t, U, c, d, pl, ps, rfl, tb, R, ok, hc, hd, ⟨rs, hp, hps⟩, hz, k⟩ := h
      refine ⟨_, rfl, _, rfl, _, rfl, t, U, c, d, rfl, R, ok, hc, hd, fun h H0 l e0 hh hl => ?_⟩
      show gName 4 _ _ _ _
      refine ⟨_, rfl, pl, rfl, ⟨_, SqL.of (e0.at hp)⟩, fun D hD => ?_⟩
      have hlen := Paired.length hps
      have w := walk_list (K := K) (a := pl) (xs := rs)
      refine lc_go w (fun _ i y _ => ∃ ms, ps[i]? = some ms ∧ Outc U l c d ms y) (fun _ => true) (by omega) hD (fun i H x H' y => by rw [y.1]; exact Le.refl _) (fun H' e => SqL.of (e.at (e0.at hp))) (fun _ _ _ _ _ h => h) ?_ ?_
      · rintro i x Ha Hb hi e1 e2 ⟨rfl, hx⟩ _ QF QT h1 h2
        have hip : i < ps.length := by omega
        obtain ⟨b, hb, a, rfl, ha⟩ := Paired.at hps (List.getElem?_eq_getElem hip)
        rw [hx] at hb
        cases hb
        have e01 := e0.trans e1
        exact ⟨rfl, _, rfl, _, rfl, _, rfl, _, rfl, _, rfl, t, U, h, l, c, d, a, ps[i], rfl, e01.tab tb, R.mono e01, ok, hc, hd, e1.at hh, e01.at ha, fun v H3 e3 ho => h2 v H3 e3 rfl ⟨_, List.getElem?_eq_getElem hip, ho⟩⟩
      · intro ys H2 e1 h1 h2
        have hpr : Paired (fun ms v => Outc U l c d ms v) ps ys := got_paired hlen.symm (by have q := h2; unfold Got at q; rw [filter_yes] at q; exact q)
        have e02 := e0.trans e1
        show gName 5 _ _ _ _
        refine ⟨_, rfl, _, rfl, _, rfl, _, rfl, _, rfl, t, U, h, l, c, d, rfl, e02.tab tb, R.mono e02, ok, hc, hd, e1.at hh, fun b H3 e3 hb => ⟨(by decide : 2 ≤ sizeLine), fun p hp3 => ?_⟩⟩
        exact k _ _ ((e02.trans e3).trans (Le.new hp3)) ⟨p, D, ys, b, l, rfl, upd_same, (e3.trans (Le.new hp3)).at h1, hl, hpr, hb⟩
  exact ⟨⟨_, fd, G, T.g_state_of, F.kp, F.bindsN (ps := ["table", "cls", "other", "patterns"]) fun _ _ _ _ _ _ us hl => match us, hl with | [_, _, _, _], _ => rfl⟩⟩

end
end Sw
set_option linter.all false
set_option maxRecDepth 100000
set_option maxHeartbeats 2000000
/-! Further own rules. -/
namespace Sw
open PySem PySem.Spec PyProof.Rows L2 LamX
/-! ### an attribute as a target -/
def gFld (K : PySem.W.Frag) (ta : TE) (f : Str) : TG := fun y σ H Q => ta σ H fun x H2 => ∃ a C dx fs, x = .ref a ∧ H2 a = some (.ins C dx fs) ∧ Cls K C ∧ NoAttr K C f ∧ fs.length < 1000 ∧ Q σ (upd H2 a (.ins C dx (putF f y fs)))
theorem pg_attr (K : PySem.W.Frag) {X : Cx} {o : Expr} {f : Str} {pos : Pos} {ta : TE} (ha : PE X o ta) (hK : X.K = K := by rfl) : PG X (.Attribute o f pos) (gFld K ta f) := by
  subst hK
  refine ⟨fun pins s σ H v u Q I r h => ?_⟩
  rw [assign_Attribute]
  refine wpAny_bind (wpAny_holding (thn (ha.run pins s σ H _ I h) fun ov s1 ⟨x, H1, I1, r1, a, C, dx, fs, ex, ea, c, n, l, q1⟩ => ?_))
  subst ex
  obtain rfl : ov = Value.ref a := r1
  refine wpAny_bind (wpAny_standAt (wpAny_bind (wpAny_holding (setattr_ok I1 ea c n l r fun s3 I3 => ?_))))
  exact wpAny_release ⟨σ, _, I3, q1⟩
/-! ### a call with a star in it -/
theorem pcS {X : Cx} {k : Nat} {x : Str} {ps : List Str} {sp : Sp} {p pos : Pos} {e : Expr} {es : List Expr} {t : TA} (F : Cal X.prog X.w X.K X.mg X.base x k ps sp) (hr : Room k X.A) (hg : Gl X x) (ha : PA X (e :: es) t) (hdb : (x == ("__debug__" : Str)) = false := by decide)
    (he : starEach (e :: es) X.env = (false, eval e X.env) :: starEach es X.env := by rfl) (hst : (backTo pos (starEach es X.env)).any (·.1) = true := by rfl) :
    PE X (.Call (.Name x p) (e :: es) [] pos) (tCall sp [] E0 t) := by
  obtain ⟨f, fd, F, g, kp, b⟩ := F.ex
  exact StX.pe_callS2 (F.raw b .nil) hr kp hg g pass0 ha hdb he hst
theorem hd_of {A : Around} {k : Nat} (hr : Room k A) : A.units + 65 < cLine := by have := hr.un; omega
theorem wninD (K : PySem.W.Frag) {X : Cx} (hu : X.A.units + 65 < cLine) (hK : X.K = K := by rfl) : OpR X (compareOp .NotIn) (rNotInD K) := by subst hK; exact op_notInD hu
/-! ### list.remove of a text -/
def eqs (k : Str) (v : Value) : Bool := match v with
  | .str z _ => z.cps.toList == k.cps.toList
  | _ => false
def rRemS : V → List V → Hp → VK → Prop := fun x xs H Q => ∃ (l : Addr) (zs : List Str) (k : Str) (j : Nat), x = .ref l ∧ xs = [.str k] ∧ H l = some (.lst (vS zs)) ∧ zs[j]? = some k ∧ (∀ m : Nat, m < j → zs[m]? ≠ some k) ∧ Q .non (upd H l (.lst (vS (zs.eraseIdx j))))
theorem vals_vS : ∀ {zs : List Str} {us : List Value}, Vals (vS zs) us → ∀ (m : Nat) (z : Str), zs[m]? = some z → ∃ t, us[m]? = some (Value.str z t)
  | [], _, _, m, z, h => by simp at h
  | a :: l, u :: us, .cons r t, 0, z, h => by
    simp at h
    subst h
    obtain ⟨tk, rfl⟩ := (show ∃ t, u = Value.str a t from r)
    exact ⟨tk, rfl⟩
  | a :: l, u :: us, .cons r t, m + 1, z, h => by
    obtain ⟨tk, e⟩ := vals_vS t m z (by simpa using h)
    exact ⟨tk, by simpa using e⟩
theorem erase_mapS : ∀ (l : List Str) (j : Nat), (vS l).eraseIdx j = vS (l.eraseIdx j)
  | [], j => by simp [vS]
  | a :: r, 0 => by simp [vS]
  | a :: r, j + 1 => by
    have ih := erase_mapS r j
    unfold vS at ih ⊢
    simp [ih]
theorem vals_len {xs : List V} {us : List Value} (r : Vals xs us) : us.length = xs.length := r.length.symm
theorem mt_removeS {X : Cx} : MtM X "list.remove" rRemS := by
  intro pins s σ H x xs v us Q I rx rxs h
  obtain ⟨l, zs, k, j, rfl, rfl, hH, hj, hno, q⟩ := h
  cases rx
  obtain ⟨u, rfl, ru⟩ := rxs.one
  obtain ⟨t, rfl⟩ := ru
  obtain ⟨z, its, n, r, hl, e⟩ := I.lstM hH
  have hln := vals_len r
  rw [vS_len] at hln
  rw [vS_len] at z
  have hjn : j < zs.length := (List.getElem?_eq_some_iff.mp hj).1
  have hjl : j < its.toArray.size := by rw [List.size_toArray]; omega
  have gv : ∀ y ∈ its, MeetsSeq.EqGives y (.str k t) (eqs k y) := by
    intro y hy
    obtain ⟨m, hm, em⟩ := List.mem_iff_getElem.mp hy
    obtain ⟨tk, e2⟩ := vals_vS r m _ (List.getElem?_eq_getElem (show m < zs.length by omega))
    rw [List.getElem?_eq_getElem hm, em] at e2
    rw [Option.some.inj e2]
    exact SeqRoads2.EqGives.str _ _ _ _
  refine call_meets PySem.F.slot_list_remove ⟨_, e, rfl⟩ PySem.F.entry_list_remove (PySem.F.args_list_remove_2 _ _)
    (MeetsSeq.list_remove l its.toArray n (.str k t) (eqs k) (fun y hy => gv y (by simpa using hy)) j hjl ?_ ?_ (by rw [List.size_toArray]; omega)) ⟨e, ?_⟩
  · obtain ⟨tj, hjt⟩ := vals_vS r j k hj
    obtain ⟨h1, h2⟩ := List.getElem?_eq_some_iff.mp hjt
    have e1 : its.toArray[j] = .str k tj := by simpa using h2
    rw [e1]
    exact beq_self_eq_true _
  · intro m hm hmj
    have hmn : m < zs.length := by omega
    obtain ⟨tm, hmt⟩ := vals_vS r m _ (List.getElem?_eq_getElem hmn)
    obtain ⟨h1, h2⟩ := List.getElem?_eq_some_iff.mp hmt
    have e1 : its.toArray[m] = .str zs[m] tm := by simpa using h2
    rw [e1]
    refine beq_eq_false_iff_ne.mpr fun e2 => hno m hmj ?_
    have e3 : zs[m] = k := by
      generalize zs[m] = z at e2
      cases z
      cases k
      exact congrArg Str.mk (Array.toList_inj.mp e2)
    rw [List.getElem?_eq_getElem hmn, e3]
  · have rr := r.eraseIdx j
    rw [erase_mapS] at rr
    refine ⟨.non, _, I.lset (its' := its.eraseIdx j) (t' := s.toks) hH e ?_ rr ?_, rfl, q⟩
    · show its.toArray.eraseIdxIfInBounds j = (its.eraseIdx j).toArray
      rw [List.eraseIdxIfInBounds_toArray]
    · rw [vS_len]
      have z2 := List.length_eraseIdx_le zs j
      omega
end Sw
set_option linter.all false
set_option maxRecDepth 100000
set_option maxHeartbeats 4000000
/-! SwF7: patterns, copies, registrations. Terms printed by gen_term.py. -/
namespace Sw
open PySem PySem.Spec PyProof.Rows L2 LamX
section
variable {P : Program} {w : World} {K : PySem.W.Frag} {mg : Str → Option Value} {base : Heap}


/-- a walk with a body told of what comes next -/
theorem it_out {J : It} {n : Nat} {G : Hp → Prop} {Y : Nat → Hp → V → Hp → Prop} (w : Walk J n G Y) {B : (Hp → Prop) → V → Hp → Prop} {Hs : Hp} {Qd : Hp → Prop} (Pv : Nat → Hp → Prop) (h0 : Pv 0 Hs) (hG : ∀ i H, i ≤ n → Pv i H → G H)
    (hs : ∀ i x H H', i < n → Pv i H → Y i H x H' → B (Pv (i + 1)) x H') (hd : ∀ H, Pv n H → Qd H) :
    ∃ W : Nat → Nat → Hp → Prop, (∃ m, W 0 m Hs) ∧ ∀ i m H, W i m H → (J.stop i H ∧ Qd H) ∨ (J.go i H ∧ ∃ Nx : Hp → Prop, (∀ H', Nx H' → ∃ m', m' < m ∧ W (i + 1) m' H') ∧ ∀ x H', J.yld i H x H' → B Nx x H') := by
  refine ⟨fun i m H => m = n - i ∧ i ≤ n ∧ Pv i H, ⟨n, by simp, Nat.zero_le _, h0⟩, ?_⟩
  rintro i m H ⟨rfl, hi, p⟩
  by_cases hlt : i < n
  · exact .inr ⟨w.goes i H hlt (hG i H hi p), Pv (i + 1), fun H' p' => ⟨n - (i + 1), by omega, rfl, hlt, p'⟩, fun x H' y => hs i x H H' hlt p (w.yields i H x H' hlt (hG i H hi p) y)⟩
  · obtain rfl : i = n := by omega
    exact .inl ⟨w.stops H (hG _ H hi p), hd H p⟩
/-- items of a dict by names -/
theorem ws_items {d : Addr} {o : Obj} {l : List Str} {f : Str → V} : Walk (Iti d o (l.map fun n => ((Sum.inr n : Key), f n))) l.length (fun H => H d = some (.frz o (.dK (l.map fun n => ((Sum.inr n : Key), f n))))) (fun i H x H' => ∃ p z, x = .ref p ∧ H p = none ∧ H' = upd H p (.tup [.str z, f z]) ∧ l[i]? = some z) := by
  have w := walk_items (d := d) (o := o) (kvs := l.map fun n => ((Sum.inr n : Key), f n))
  rw [List.length_map] at w
  refine w.mono (fun _ h => h) fun i H x H' _ _ y => ?_
  obtain ⟨p, a, b, h1, h2, h3, h4, h5⟩ := y
  simp only [List.getElem?_map] at h4 h5
  cases e : l[i]? with
  | none => rw [e] at h4; cases h4
  | some z =>
    rw [e] at h4 h5
    cases h4
    cases h5
    exact ⟨p, z, h1, h2, h3, rfl⟩
/-- an entry, its line's list at ln, its marks' dict at mk -/
def EntL (H : Hp) (e : Addr) (n : Str) (c : Cl) (ln mk : Addr) : Prop := ∃ dx tp hv, H e = some (.ins cEntry dx (fsE n tp c.own mk hv c.passed ln)) ∧ H tp = some (.tup (vS c.par)) ∧ H mk = some (.dK (kvM c.marks)) ∧ OHook H hv c.hook ∧ H ln = some (.lst (vS c.line))
theorem EntL.to {H : Hp} {e ln mk : Addr} {n : Str} {c : Cl} (h : EntL H e n c ln mk) : EntAt H e n c := by
  obtain ⟨dx, tp, hv, h⟩ := h
  exact ⟨dx, tp, mk, hv, ln, h⟩
/-- what is never written -/
def immO : HO → Bool
  | .tup _ => true
  | .ins C _ _ => C == cEntry
  | _ => false
def KeepI (H H' : Hp) : Prop := ∀ b o, H b = some o → immO o = true → H' b = some o
theorem KeepI.upd {H : Hp} {q : Addr} {o o' : HO} (h : H q = some o) (n : immO o = false) : KeepI H (upd H q o') := fun b u hb i => by
  rw [upd_ne (fun z => by rw [z, h] at hb; cases hb; rw [n] at i; cases i)]
  exact hb
theorem imm_plain {o : HO} (h : immO o = true) : plainO o = true := by
  cases o <;> first | rfl | cases h
theorem Le.keepI {H H' : Hp} (e : Le H H') : KeepI H H' := fun _ _ h i => e.at h (imm_plain i)
theorem KeepI.trans {H H1 H2 : Hp} (a : KeepI H H1) (b : KeepI H1 H2) : KeepI H H2 := fun x o h i => b x o (a x o h i) i
theorem ClauseAt.keep {H H' : Hp} {v : V} {c : List Str × Bool} (e : KeepI H H') (h : ClauseAt H v c) : ClauseAt H' v c := by
  obtain ⟨a, m, h1, h2, h3⟩ := h
  exact ⟨a, m, h1, e _ _ h2 rfl, e _ _ h3 rfl⟩
theorem OHook.keep {H H' : Hp} {v : V} (e : KeepI H H') : ∀ {c : Option Hook}, OHook H v c → OHook H' v c
  | none, h => h
  | some _, h => by
    obtain ⟨a, vs, h1, h2, h3⟩ := h
    exact ⟨a, vs, h1, e _ _ h2 rfl, Paired.mapP h3 fun _ _ q => q.keep e⟩
theorem EntL.keep {H H' : Hp} {e ln mk : Addr} {n : Str} {c : Cl} (x : KeepI H H') (hl : H' ln = H ln) (hm : H' mk = H mk) (h : EntL H e n c ln mk) : EntL H' e n c ln mk := by
  obtain ⟨dx, tp, hv, h1, h2, h3, h4, h5⟩ := h
  exact ⟨dx, tp, hv, x _ _ h1 rfl, x _ _ h2 rfl, hm.trans h3, h4.keep x, hl.trans h5⟩
theorem EntL.mono {H H' : Hp} {e ln mk : Addr} {n : Str} {c : Cl} (x : Le H H') (h : EntL H e n c ln mk) : EntL H' e n c ln mk := by
  obtain ⟨dx, tp, hv, h1, h2, h3, h4, h5⟩ := h
  exact ⟨dx, tp, hv, x.at h1, x.at h2, x.at h3, h4.mono x, x.at h5⟩
/-- a table that is one's own: made behind H0 -/
structure TabX (H0 H : Hp) (t : Addr) (U : Tb) (dx r nb l : Addr) (mk : Int) (ad lf mf la : Str → Addr) : Prop where
  ht : H t = some (.ins cTable dx (fsT r nb l mk))
  hr : H r = some (.dK (kvR U.names ad))
  he : ∀ n ∈ U.names, EntL H (ad n) n (U.cl n) (lf n) (mf n)
  hn : NumAt H nb U.names.length
  hl : H l = some (.dK (kvR U.names la))
  hls : ∀ n ∈ U.names, H (la n) = some (.lst (vS (U.ls n)))
  ft : Fre H0 t
  fr : Fre H0 r
  fnb : Fre H0 nb
  fl : Fre H0 l
  fla : ∀ n ∈ U.names, Fre H0 (la n)
  inj : ∀ n ∈ U.names, ∀ m ∈ U.names, la n = la m → n = m
  sep : ∀ n ∈ U.names, ∀ m ∈ U.names, lf n ≠ la m
  d1 : r ≠ nb
  d2 : r ≠ l
  d3 : nb ≠ l
  dm : ∀ n ∈ U.names, mf n ≠ r ∧ mf n ≠ nb ∧ mf n ≠ l
structure TabF (H0 H : Hp) (t : Addr) (U : Tb) : Prop where
  ex : ∃ dx r nb l mk ad lf mf la, TabX H0 H t U dx r nb l mk ad lf mf la
theorem TabF.tab {H0 H : Hp} {t : Addr} {U : Tb} (h : TabF H0 H t U) : TabAt H t U := by
  obtain ⟨dx, r, nb, l, mk, ad, lf, mf, la, h⟩ := h.ex
  exact ⟨dx, r, nb, l, mk, h.ht, ⟨ad, h.hr, fun n hn => (h.he n hn).to⟩, h.hn, la, h.hl, h.hls⟩
section
variable {H0 H H' : Hp} {t dx r nb l : Addr} {U : Tb} {mk : Int} {ad lf mf la : Str → Addr}
theorem TabX.keep (h : TabX H0 H t U dx r nb l mk ad lf mf la) (x : KeepI H H') (ht : H' t = H t) (hr : H' r = H r) (hnb : H' nb = H nb) (hl : H' l = H l) (hlf : ∀ n ∈ U.names, H' (lf n) = H (lf n)) (hmf : ∀ n ∈ U.names, H' (mf n) = H (mf n)) (hla : ∀ n ∈ U.names, H' (la n) = H (la n)) :
    TabX H0 H' t U dx r nb l mk ad lf mf la :=
  ⟨ht.trans h.ht, hr.trans h.hr, fun n hn => (h.he n hn).keep x (hlf n hn) (hmf n hn), let ⟨kv, a, b⟩ := h.hn; ⟨kv, hnb.trans a, b⟩, hl.trans h.hl, fun n hn => (hla n hn).trans (h.hls n hn), h.ft, h.fr, h.fnb, h.fl, h.fla, h.inj, h.sep, h.d1, h.d2, h.d3, h.dm⟩
theorem le_eq {b : Addr} {o : HO} (e : Le H H') (h : H b = some o) (n : plainO o = true := by rfl) : H' b = H b := (e.at h n).trans h.symm
theorem TabX.mono (h : TabX H0 H t U dx r nb l mk ad lf mf la) (e : Le H H') : TabX H0 H' t U dx r nb l mk ad lf mf la := by
  obtain ⟨kv, hkv, _⟩ := h.hn
  refine h.keep e.keepI (le_eq e h.ht) (le_eq e h.hr) (le_eq e hkv) (le_eq e h.hl) (fun n hn => ?_) (fun n hn => ?_) (fun n hn => le_eq e (h.hls n hn))
  · obtain ⟨_, _, _, _, _, _, _, hln⟩ := h.he n hn
    exact le_eq e hln
  · obtain ⟨_, _, _, _, _, hm, _, _⟩ := h.he n hn
    exact le_eq e hm
/-- something else is written -/
theorem TabX.upd {q : Addr} {o o' : HO} (h : TabX H0 H t U dx r nb l mk ad lf mf la) (hq : H q = some o) (n : immO o = false) (n1 : ∀ fs, o ≠ .ins cTable dx fs) (n2 : ∀ kv, o ≠ .dK kv) (n3 : ∀ xs, o ≠ .lst xs) : TabX H0 (L2.upd H q o') t U dx r nb l mk ad lf mf la := by
  have ne : ∀ {b : Addr} {u : HO}, H b = some u → o ≠ u → L2.upd H q o' b = H b := fun hb d => upd_ne (fun z => by rw [z, hq] at hb; exact d (Option.some.inj hb))
  obtain ⟨kv, hkv, _⟩ := h.hn
  refine h.keep (KeepI.upd hq n) (ne h.ht (n1 _)) (ne h.hr (n2 _)) (ne hkv (n2 _)) (ne h.hl (n2 _)) (fun m hm => ?_) (fun m hm => ?_) (fun m hm => ne (h.hls m hm) (n3 _))
  · obtain ⟨_, _, _, _, _, _, _, hln⟩ := h.he m hm
    exact ne hln (n3 _)
  · obtain ⟨_, _, _, _, _, hmm, _, _⟩ := h.he m hm
    exact ne hmm (n2 _)
end
theorem lock_fre {H : Hp} {d p : Addr} {u : HO} {od : Obj} (hd : H d = some u) (f : Fre (upd H d (.frz od u)) p) : Fre H p := fun o n q => by
  by_cases e : p = d
  · subst e
    exact f (.frz od u) rfl upd_same
  · exact f o n (by rw [upd_ne e]; exact q)
/-- without a registration -/
def Tb.rem (U : Tb) (a b : Str) : Tb := { U with ls := fun n => if n = a then (U.ls n).erase b else U.ls n }
theorem erase_ix {k : Str} : ∀ {zs : List Str}, k ∈ zs → ∃ j : Nat, zs[j]? = some k ∧ (∀ m : Nat, m < j → zs[m]? ≠ some k) ∧ zs.eraseIdx j = zs.erase k
  | [], h => by cases h
  | a :: l, h => by
    by_cases e : a = k
    · subst e
      exact ⟨0, rfl, fun m hm => absurd hm (Nat.not_lt_zero _), by simp⟩
    · rcases List.mem_cons.mp h with q | q
      · exact absurd q.symm e
      · obtain ⟨j, h1, h2, h3⟩ := erase_ix q
        refine ⟨j + 1, by simpa using h1, fun m hm => ?_, ?_⟩
        · cases m with
          | zero => simpa using e
          | succ m => simpa using h2 m (by omega)
        · rw [List.eraseIdx_cons_succ, h3, List.erase_cons_tail (by simpa using e)]
def PairAt (H : Hp) (v : V) (p : Str × Str) : Prop := ∃ a, v = .ref a ∧ H a = some (.tup [.str p.1, .str p.2])
def RegsAt (H : Hp) (l : Addr) (ps : List (Str × Str)) : Prop := ∃ rs, H l = some (.lst rs) ∧ Paired (fun p v => PairAt H v p) ps rs
theorem PairAt.monoX {H H' : Hp} {D : Addr} {v : V} {p : Str × Str} {ys : List V} (e : LeX D H H') (hD : H D = some (.lst ys)) (h : PairAt H v p) : PairAt H' v p := by
  obtain ⟨a, h1, h2⟩ := h
  exact ⟨a, h1, e.at (fun z => by rw [z, hD] at h2; cases h2) h2⟩
theorem PairAt.mono {H H' : Hp} {v : V} {p : Str × Str} (e : Le H H') (h : PairAt H v p) : PairAt H' v p := by
  obtain ⟨a, h1, h2⟩ := h
  exact ⟨a, h1, e.at h2⟩
theorem RegsAt.mono {H H' : Hp} {l : Addr} {ps : List (Str × Str)} (e : Le H H') (h : RegsAt H l ps) : RegsAt H' l ps := by
  obtain ⟨rs, h1, h2⟩ := h
  exact ⟨rs, e.at h1, Paired.mapP h2 fun _ _ q => q.mono e⟩
def spTInit : Sp := fun vs H Q _ => ∃ x dx H0, vs = [.ref x] ∧ H x = some (.ins cTable dx []) ∧ Le H0 H ∧ Fre H0 x ∧ ∀ r nb l H', Le H0 H' → Fre H0 r → Fre H0 nb → Fre H0 l → r ≠ nb → r ≠ l → nb ≠ l → H' x = some (.ins cTable dx (fsT r nb l 0)) → H' r = some (.dK []) → H' nb = some (.dK []) → H' l = some (.dK []) → Q .non H'
def spTCopied : Sp := fun vs H Q _ => ∃ t U, vs = [.ref t] ∧ TabAt H t U ∧ U.Ok ∧ ∀ t' H', Le H H' → TabF H H' t' U → Q (.ref t') H'
def spTRegs : Sp := fun vs H Q _ => ∃ t U, vs = [.ref t] ∧ TabAt H t U ∧ U.Ok ∧ ∀ p H', Le H H' → RegsAt H' p U.regs → Q (.ref p) H'
def spTRem : Sp := fun vs H Q _ => ∃ t a b H0 U, vs = [.ref t, .str a, .str b] ∧ Le H0 H ∧ TabF H0 H t U ∧ a ∈ U.names ∧ b ∈ U.ls a ∧ ∀ H', Le H0 H' → TabF H0 H' t (U.rem a b) → Q .non H'
/-- the patterns of methods -/
def patsOf (ms : List Str) : List (List Str) := ms.foldl (fun ps m => ps ++ ps.map (· ++ [m])) [[]]
def Tb.meth (U : Tb) (m : Str) : Prop := ∃ n ∈ U.names, ∃ h, (U.cl n).hook = some h ∧ ∃ c ∈ h, m ∈ c.1
def spMeths : Sp := fun vs H Q _ => ∃ t U, vs = [.ref t] ∧ TabAt H t U ∧ U.Ok ∧ ∀ p H' ms, Le H H' → H' p = some (.lst (vS ms)) → ms.Nodup → (∀ m, m ∈ ms ↔ U.meth m) → Q (.ref p) H'
def spPats : Sp := fun vs H Q _ => ∃ t U, vs = [.ref t] ∧ TabAt H t U ∧ U.Ok ∧ ∀ p H' ms, Le H H' → PatsAt H' p (patsOf ms) → (patsOf ms).length ≤ 1000 → (∀ m, m ∈ ms ↔ U.meth m) → Q (.ref p) H'
theorem fsT_full {r nb l : Addr} {i : Int} : putF "made" (.int i) (putF "lists" (.ref l) (putF "numbers" (.ref nb) (putF "records" (.ref r) []))) = fsT r nb l i := by kernel_rfl


theorem fsT_made_i {r nb l : Addr} {i j : Int} : putF "made" (.int j) (fsT r nb l i) = fsT r nb l j := by kernel_rfl
theorem fsT_rec_i {r r' nb l : Addr} {i : Int} : putF "records" (.ref r') (fsT r nb l i) = fsT r' nb l i := by kernel_rfl
theorem fsT_num_i {r nb nb' l : Addr} {i : Int} : putF "numbers" (.ref nb') (fsT r nb l i) = fsT r nb' l i := by kernel_rfl
theorem fsT_lst_i {r nb l l' : Addr} {i : Int} : putF "lists" (.ref l') (fsT r nb l i) = fsT r nb l' i := by kernel_rfl
theorem fsT_len {r nb l : Addr} {i : Int} : (fsT r nb l i).length < 1000 := (by decide : 4 < 1000)
theorem putF_lt {f : Str} {v : V} {fs : List (Str × V)} {k : Nat} (h : fs.length < k) : (putF f v fs).length < k + 1 := Nat.lt_of_le_of_lt (length_putF ..) (Nat.succ_lt_succ h)

theorem sc_Table_init : FnScope ["self"] ["self"] (defScope s_Table_init) := ⟨rfl, rfl, rfl, by decide +kernel, rfl, by decide +kernel, by decide +kernel⟩
theorem ok_Table_init (T : Tx K mg)  : CalC P w K mg base "Table" cTable 1 ["self"] spTInit := by
  obtain ⟨fd, F⟩ := T.fn _ fi_Table_init
  have G : FnOk P w K mg base CX0 1 d_Table_init.f fd ["self"] spTInit := by
    refine F.ok sc_Table_init (fun vs H Q E h => ?_) (fun cdv A outer s H vs Q E hr h => ⟨_, PSs.nox (X := cxOf CX0 P w K mg base _ _ _ _ cdv A outer s H E) ((pss_cons (wsfld K (pv 0) pe_dnewK rfl)
    (pss_cons (wsfld K (pv 0) pe_dnewK rfl)
    (pss_cons (wsfld K (pv 0) pe_dnewK rfl)
    (pss_one (wsfld K (pv 0) pe_int rfl)))))), ?_⟩)
    · obtain ⟨_, _, _, rfl, _⟩ := h
      rfl
    · obtain ⟨x, dx, H0, rfl, hx, e, fx, k⟩ := h
      have l0 : ([] : List (Str × V)).length < 1 := (by decide : 0 < 1)
      refine fun r hr => ⟨_, rfl, _, cTable, dx, [], rfl, (Le.new hr).at hx, T.cl_Table, T.n_Table_records, (by decide : 0 < 1000), fun nb hnb => ⟨_, rfl, _, cTable, dx, _, rfl, (Le.new hnb).at upd_same, T.cl_Table, T.n_Table_numbers, Nat.lt_of_lt_of_le (putF_lt l0) (by decide),
        fun l hl => ⟨_, rfl, _, cTable, dx, _, rfl, (Le.new hl).at upd_same, T.cl_Table, T.n_Table_lists, Nat.lt_of_lt_of_le (putF_lt (putF_lt l0)) (by decide), _, rfl, _, cTable, dx, _, rfl, upd_same, T.cl_Table, T.n_Table_made, Nat.lt_of_lt_of_le (putF_lt (putF_lt (putF_lt l0))) (by decide), ?_⟩⟩⟩
      rw [fsT_full]
      have L1 := e.trans (Le.new (o := .dK []) hr)
      have x1 := (Le.new (o := .dK []) hr).at hx
      have xr : r ≠ x := fun z => by rw [z, hx] at hr; cases hr
      have L2 : Le H0 (upd (upd H r (.dK [])) x (.ins cTable dx (putF "records" (V.ref r) []))) := L1.mutF fx x1 rfl
      have xnb : nb ≠ x := fun z => by rw [z, upd_same] at hnb; cases hnb
      have rnb : nb ≠ r := fun z => by rw [z, upd_ne xr, upd_same] at hnb; cases hnb
      have fnb := L2.fr0 hnb
      have L3 := L2.trans (Le.new (o := .dK []) hnb)
      have L4 := L3.mutF (o := .ins cTable dx (putF "numbers" (V.ref nb) (putF "records" (V.ref r) []))) fx ((Le.new hnb).at upd_same) rfl
      have xl : l ≠ x := fun z => by rw [z, upd_same] at hl; cases hl
      have rl : l ≠ r := fun z => by rw [z, upd_ne xr, upd_ne rnb.symm, upd_ne xr, upd_same] at hl; cases hl
      have nbl : l ≠ nb := fun z => by rw [z, upd_ne xnb, upd_same] at hl; cases hl
      have fl := L4.fr0 hl
      have L5 := L4.trans (Le.new (o := .dK []) hl)
      have L6 := L5.mutF (o := .ins cTable dx (putF "lists" (V.ref l) (putF "numbers" (V.ref nb) (putF "records" (V.ref r) [])))) fx ((Le.new hl).at upd_same) rfl
      have L7 := L6.mutF (o := .ins cTable dx (fsT r nb l 0)) fx upd_same rfl
      refine k r nb l _ L7 (e.fre (.of hr)) fnb fl rnb.symm rl.symm nbl.symm upd_same ?_ ?_ ?_
      · rw [upd_ne xr, upd_ne xr, upd_ne rl.symm, upd_ne xr, upd_ne rnb.symm, upd_ne xr, upd_same]
      · rw [upd_ne xnb, upd_ne xnb, upd_ne nbl.symm, upd_ne xnb, upd_same]
      · rw [upd_ne xl, upd_ne xl, upd_same]
  exact ⟨⟨_, fd, G, T.mk_Table, T.c_Table, F.bindsN (ps := ["self"]) fun _ _ _ _ _ _ us hl => match us, hl with | [_], _ => rfl⟩⟩

theorem sc_Table_remove_registration : FnScope ["self", "name", "other"] ["self", "name", "other"] (defScope s_Table_remove_registration) := ⟨rfl, rfl, rfl, by decide +kernel, rfl, by decide +kernel, by decide +kernel⟩
theorem ok_Table_remove_registration (T : Tx K mg)  : CalM P w K mg base cTable "remove_registration" 1 ["self", "name", "other"] spTRem := by
  obtain ⟨fd, F⟩ := T.fn _ fi_Table_remove_registration
  have G : FnOk P w K mg base CX0 1 d_Table_remove_registration.f fd ["self", "name", "other"] spTRem := by
    refine F.ok sc_Table_remove_registration (fun vs H Q E h => ?_) (fun cdv A outer s H vs Q E hr h => ⟨_, PSs.nox (X := cxOf CX0 P w K mg base _ _ _ _ cdv A outer s H E) ((pss_one (ps_expr (pe_bm PySem.F.plainAttrs_list PySem.F.slot_list_remove PySem.F.type_list_remove mt_removeS (pe_dget (hu_of hr) (wfld K (pv 0) rfl) (pv 1) (fun _ _ => rfl)) (pa_cons (pv 2) pa_nil))))), ?_⟩)
    · obtain ⟨_, _, _, _, _, rfl, _⟩ := h
      rfl
    · obtain ⟨t, a, b, H0, U, rfl, e, ⟨dx, r, nb, l, mk, ad, lf, mf, la, X⟩, ha, hb, k⟩ := h
      obtain ⟨j, hj, hno, her⟩ := erase_ix hb
      have hA := X.hls a ha
      refine ⟨_, rfl, _, cTable, dx, _, _, rfl, X.ht, T.cl_Table, T.n_Table_lists, fsT_lists, _, rfl, l, _, rfl, dget_kv (.inl X.hl) ha, .inl ⟨rfl, _, SqL.of hA⟩, _, rfl, la a, U.ls a, b, j, rfl, rfl, hA, hj, hno, ?_⟩
      rw [her]
      have nl : ∀ {q : Addr} {o : HO}, H q = some o → (∀ ys, o ≠ .lst ys) → upd H (la a) (.lst (vS ((U.ls a).erase b))) q = H q := fun h n => upd_ne (fun z => by rw [z, hA] at h; exact n _ (Option.some.inj h).symm)
      obtain ⟨kv, hkv, hkz⟩ := X.hn
      refine k _ (e.mutF (X.fla a ha) hA rfl) ⟨dx, r, nb, l, mk, ad, lf, mf, la, (nl X.ht (fun ys z => by cases z)).trans X.ht, (nl X.hr (fun ys z => by cases z)).trans X.hr, fun n hn => ?_, ⟨kv, (nl hkv (fun ys z => by cases z)).trans hkv, hkz⟩, (nl X.hl (fun ys z => by cases z)).trans X.hl, fun n hn => ?_, X.ft, X.fr, X.fnb, X.fl, X.fla, X.inj, X.sep, X.d1, X.d2, X.d3, X.dm⟩
      · have hE := X.he n hn
        obtain ⟨_, _, _, _, _, hm, _, _⟩ := id hE
        exact hE.keep (KeepI.upd hA rfl) (upd_ne (X.sep n hn a ha)) (nl hm (fun ys z => by cases z))
      · by_cases hna : n = a
        · subst hna
          show _ = some (HO.lst (vS (if n = n then (U.ls n).erase b else U.ls n)))
          rw [if_pos rfl, upd_same]
        · show _ = some (HO.lst (vS (if n = a then (U.ls n).erase b else U.ls n)))
          rw [if_neg hna, upd_ne (fun z => hna (X.inj n hn a ha z))]
          exact X.hls n hn
  exact ⟨⟨_, fd, G, T.m_Table_remove_registration, T.cl_Table, F.bindsN (ps := ["self", "name", "other"]) fun _ _ _ _ _ _ us hl => match us, hl with | [_, _, _], _ => rfl⟩⟩


theorem flat_len {α β : Type} (f : α → List β) (k : Nat) : ∀ (l : List α), (∀ a ∈ l, (f a).length ≤ k) → (l.flatMap f).length ≤ l.length * k
  | [], _ => by simp
  | a :: l, h => by
    rw [List.flatMap_cons, List.length_append, List.length_cons]
    have h1 := h a List.mem_cons_self
    have h2 := flat_len f k l fun b hb => h b (List.mem_cons_of_mem _ hb)
    rw [Nat.succ_mul]
    omega

theorem sc_Table_registrations : FnScope ["self", "name", "others", "other"] ["self"] (defScope s_Table_registrations) := ⟨rfl, rfl, rfl, by decide +kernel, rfl, by decide +kernel, by decide +kernel⟩
theorem ok_Table_registrations (T : Tx K mg)  : CalM P w K mg base cTable "registrations" 1 ["self"] spTRegs := by
  obtain ⟨fd, F⟩ := T.fn _ fi_Table_registrations
  have G : FnOk P w K mg base CX0 1 d_Table_registrations.f fd ["self"] spTRegs := by
    refine F.ok sc_Table_registrations (fun vs H Q E h => ?_) (fun cdv A outer s H vs Q E hr h => ⟨_, PSs.nox (X := cxOf CX0 P w K mg base _ _ _ _ cdv A outer s H E) ((pss_one (ps_ret (pe_lock (pe_lc2 (own := [("name", 1), ("others", 2), ("other", 3)]) (vs1 := [3]) rfl sc_Table_registrations.nd (pi_items (wfld K (pv 0) rfl)) (blkOk_by (N := ["self", "name", "others", "other"]) (sc := defScope s_Table_registrations) (own := [("name", 1), ("others", 2), ("other", 3)]) (by decide +kernel)) (by decide) (fun _ _ _ _ _ => (wtup (n := 2) K rfl (pgs_cons (pg_name (i := 1) sc_Table_registrations.nd rfl (Or.inl rfl)) (pgs_cons (pg_name (i := 2) sc_Table_registrations.nd rfl (Or.inl rfl)) pgs_nil)))) (fun _ _ _ _ _ => pts_nil) (fun _ _ _ _ _ => (wlist K (pv 2))) (fun _ _ _ _ _ => (pg_name (i := 3) sc_Table_registrations.nd rfl (Or.inl rfl))) (fun _ _ _ _ _ => pts_nil) (fun _ _ _ _ _ => (pe_tup (pa_cons (pv 1) (pa_cons (pv 3) pa_nil))))))))), ?_⟩)
    · obtain ⟨_, _, rfl, _⟩ := h
      rfl
    · obtain ⟨t, U, rfl, R, ok, k⟩ := h
      obtain ⟨dx, r, nb, l, mk, ht, hR, hN, ⟨la, hl0, hla⟩⟩ := R.ex
      refine ⟨l, .dK (kvR U.names la), hl0, trivial, fun od => ⟨_, rfl, _, cTable, dx, _, _, rfl, lock_at hl0 ht (by intro q; cases q), T.cl_Table, T.n_Table_lists, fsT_lists, l, od, _, rfl, upd_same, fun D hD => ?_⟩⟩
      have nD : D ≠ l := by rintro rfl; rw [upd_same] at hD; cases hD
      let f : Str → List (Str × Str) := fun n => (U.ls n).map fun o => (n, o)
      have hb : ∀ i, ((U.names.take i).flatMap f).length ≤ 2000 := fun i => by
        have h1 := flat_len f 100 (U.names.take i) fun n hn => by
          show ((U.ls n).map _).length ≤ 100
          rw [List.length_map]
          exact ok.rsz n (List.mem_of_mem_take hn)
        have h2 : (U.names.take i).length ≤ 20 := Nat.le_trans (List.length_take_le' ..) ok.sz
        have h3 := Nat.mul_le_mul_right 100 h2
        omega
      refine it_out (ws_items (d := l) (o := od) (l := U.names) (f := fun n => V.ref (la n))) (fun i H' => Le (upd H l (.frz od (.dK (kvR U.names la)))) H' ∧ ∃ rs, H' D = some (.lst rs) ∧ Paired (fun p v => PairAt H' v p) ((U.names.take i).flatMap f) rs) ⟨Le.new hD, [], upd_same, .nil⟩ (fun i H' _ p => p.1.at upd_same) ?_ ?_
      · rintro i x Ha Hb hi ⟨e, rs, hd, hp⟩ ⟨p, z, rfl, hpn, rfl, hz⟩
        have hzn := List.mem_of_getElem? hz
        have eb := e.trans (Le.new (o := .tup [.str z, .ref (la z)]) hpn)
        refine ⟨p, _, rfl, SqT.of upd_same, rfl, _, _, rfl, _, _, rfl, rfl, rfl, _, rfl, la z, rfl, ⟨_, SqL.of (eb.at (lock_at hl0 (hla z hzn) (by intro q; cases q)))⟩, ?_⟩
        refine it_out (ws_list (K := K) (a := la z) (l := U.ls z)) (fun j H' => Le (upd H l (.frz od (.dK (kvR U.names la)))) H' ∧ ∃ rs, H' D = some (.lst rs) ∧ Paired (fun p v => PairAt H' v p) ((U.names.take i).flatMap f ++ ((U.ls z).take j).map fun o => (z, o)) rs) ⟨eb, rs, (Le.new hpn).at hd, ?_⟩ (fun j H' _ p => SqL.of (p.1.at (lock_at hl0 (hla z hzn) (by intro q; cases q)))) ?_ ?_
        · rw [List.take_zero, List.map_nil, List.append_nil]
          exact Paired.mapP hp fun _ _ q => q.mono (Le.new hpn)
        · rintro j y Hc Hd hj ⟨e2, rs2, hd2, hp2⟩ ⟨rfl, w2, hw, rfl⟩
          have hlen := Paired.length hp2
          have hb1 := hb i
          have hb2 := ok.rsz z hzn
          refine ⟨rfl, _, rfl, _, rfl, (by decide : 2 ≤ sizeLine), fun q hq => ⟨rs2, (Le.new hq).at hd2, sz5' ?_, (e2.trans (Le.new hq)).mut hD ((Le.new hq).at hd2) rfl, _, upd_same, ?_⟩⟩
          · rw [← hlen, List.length_append, List.length_map, List.length_take]
            omega
          · rw [take_snoc hw, List.map_append, ← List.append_assoc]
            refine Paired.snoc (Paired.mapP hp2 fun _ _ r => (r.mono (Le.new hq)).monoX LeX.upd ((Le.new hq).at hd2)) ⟨q, rfl, ?_⟩
            rw [upd_ne (fun z => by rw [z, hd2] at hq; cases hq)]
            exact upd_same
        · rintro Hc ⟨e2, rs2, hd2, hp2⟩
          refine ⟨e2, rs2, hd2, ?_⟩
          rw [List.take_length] at hp2
          rw [take_snoc hz, List.flatMap_append]
          simpa [f] using hp2
      · rintro Hc ⟨e2, rs2, hd2, hp2⟩
        refine ⟨e2.at upd_same, ?_⟩
        refine k D _ (lock_le hl0 rfl e2) ⟨rs2, by rw [upd_ne nD]; exact hd2, ?_⟩
        rw [List.take_length] at hp2
        refine Paired.mapP hp2 fun p v ⟨a, h1, h2⟩ => ⟨a, h1, ?_⟩
        rw [upd_ne (fun z => by rw [z, e2.at upd_same] at h2; cases h2)]
        exact h2
  exact ⟨⟨_, fd, G, T.m_Table_registrations, T.cl_Table, F.bindsN (ps := ["self"]) fun _ _ _ _ _ _ us hl => match us, hl with | [_], _ => rfl⟩⟩

end
end Sw
set_option linter.all false
set_option maxRecDepth 100000
set_option maxHeartbeats 4000000
/-! SwF8: copies, patterns. Terms printed by gen_term.py. -/
namespace Sw
open PySem PySem.Spec PyProof.Rows L2 LamX
section
variable {P : Program} {w : World} {K : PySem.W.Frag} {mg : Str → Option Value} {base : Heap}


theorem putF_new {f : Str} {v : V} : putF f v [] = [(f, v)] := rfl
theorem EntAt.pick {H : Hp} {U : Tb} {ad : Str → Addr} (h : ∀ n ∈ U.names, EntAt H (ad n) n (U.cl n)) : ∃ lf mf : Str → Addr, ∀ n ∈ U.names, EntL H (ad n) n (U.cl n) (lf n) (mf n) := by
  have g : ∀ n, ∃ p : Addr × Addr, n ∈ U.names → EntL H (ad n) n (U.cl n) p.1 p.2 := fun n => by
    by_cases hn : n ∈ U.names
    · obtain ⟨dx, tp, mk, hv, ln, h⟩ := (h n hn).ex
      exact ⟨(ln, mk), fun _ => ⟨dx, tp, hv, h⟩⟩
    · exact ⟨(0, 0), fun z => absurd z hn⟩
  exact ⟨fun n => (Classical.choose (g n)).1, fun n => (Classical.choose (g n)).2, fun n => Classical.choose_spec (g n)⟩
theorem le_make {H : Hp} {x xd : Addr} {C : Addr} (hx : H x = none) (hxd : H xd = none) (hne : xd ≠ x) : Le H (upd (upd H xd (.own x)) x (.ins C xd [])) := (Le.new hxd).trans (Le.new (by rw [upd_ne hne.symm]; exact hx))

theorem sc_Table_copied : FnScope ["self", "found", "name", "others"] ["self"] (defScope s_Table_copied) := ⟨rfl, rfl, rfl, by decide +kernel, rfl, by decide +kernel, by decide +kernel⟩
theorem ok_Table_copied (T : Tx K mg) (c_Table : CalC P w K mg base "Table" cTable 1 ["self"] spTInit) : CalM P w K mg base cTable "copied" 3 ["self"] spTCopied := by
  obtain ⟨fd, F⟩ := T.fn _ fi_Table_copied
  have G : FnOk P w K mg base CX0 3 d_Table_copied.f fd ["self"] spTCopied := by
    refine F.ok sc_Table_copied (fun vs H Q E h => ?_) (fun cdv A outer s H vs Q E hr h => ⟨_, PSs.nox (X := cxOf CX0 P w K mg base _ _ _ _ cdv A outer s H E) ((pss_cons (ps_set (i := 1) sc_Table_copied.nd rfl (Or.inl rfl) (pn0 c_Table hr rfl))
    (pss_cons (ps_asg (pe_tup (pa_cons (pe_callTy call_dictD (by rfl) T.f_dict bb_dict (pa_cons (wfld K (pv 0) rfl) pa_nil)) (pa_cons (pe_callTy call_dictD (by rfl) T.f_dict bb_dict (pa_cons (wfld K (pv 0) rfl) pa_nil)) (pa_cons (wfld K (pv 0) rfl) pa_nil)))) (wtup (n := 3) K rfl (pgs_cons (pg_attr K (pv 1) rfl) (pgs_cons (pg_attr K (pv 1) rfl) (pgs_cons (pg_attr K (pv 1) rfl) pgs_nil)))))
    (pss_cons (wsfld K (pv 1) (pe_lock (pe_dc (own := [("name", 2), ("others", 3)]) rfl sc_Table_copied.nd (pi_items (wfld K (pv 0) rfl)) (blkOk_by (N := ["self", "found", "name", "others"]) (sc := defScope s_Table_copied) (own := [("name", 2), ("others", 3)]) (by decide +kernel)) (fun _ _ _ _ _ => (wtup (n := 2) K rfl (pgs_cons (pg_name (i := 2) sc_Table_copied.nd rfl (Or.inl rfl)) (pgs_cons (pg_name (i := 3) sc_Table_copied.nd rfl (Or.inl rfl)) pgs_nil)))) (fun _ _ _ _ _ => pts_nil) (fun _ _ _ _ _ => (pv 2)) (fun _ _ _ _ _ => (pe_callTy (wlistof K) (by rfl) T.f_list bb_list (pa_cons (pv 3) pa_nil))))) rfl)
    (pss_one (ps_ret (pv 1))))))), ?_⟩)
    · obtain ⟨_, _, rfl, _⟩ := h
      rfl
    · obtain ⟨t, U, rfl, R, ok, k⟩ := h
      obtain ⟨dx, r, nb, l, mk, ht, ⟨ad, hr0, hE⟩, ⟨kv, hkv, hkz⟩, ⟨la, hl0, hla⟩⟩ := R.ex
      refine fun x xd hx hxd hne => ⟨x, xd, H, rfl, upd_same, le_make hx hxd hne, .of hx, fun r1 nb1 l1 H1 e1 fr1 fnb1 fl1 _ _ _ hx1 _ _ _ => ⟨rfl, ?_⟩⟩
      show gName 1 _ _ _ _
      refine ⟨_, rfl, _, cTable, dx, _, _, rfl, e1.at ht, T.cl_Table, T.n_Table_records, fsT_records, r, _, rfl, .inl (e1.at hr0), fun p1 hp1 => ?_⟩
      have e2 := Le.new (o := .dK (kvR U.names ad)) hp1
      refine ⟨_, rfl, _, cTable, dx, _, _, rfl, (e1.trans e2).at ht, T.cl_Table, T.n_Table_numbers, fsT_numbers, nb, _, rfl, .inl ((e1.trans e2).at hkv), fun p2 hp2 => ?_⟩
      have e3 := Le.new (o := .dK kv) hp2
      refine ⟨_, rfl, _, cTable, dx, _, _, rfl, ((e1.trans e2).trans e3).at ht, T.cl_Table, T.n_Table_made, fsT_made, (by decide : 3 ≤ sizeLine), fun q hq => ?_⟩
      have e4 := Le.new (o := .tup [.ref p1, .ref p2, .int mk]) hq
      have e14 := ((e1.trans e2).trans e3).trans e4
      have hx4 := ((e2.trans e3).trans e4).at hx1
      have fx : Fre H x := .of hx
      refine ⟨q, _, rfl, SqT.of upd_same, rfl, _, _, rfl, _, rfl, x, cTable, xd, _, rfl, hx4, T.cl_Table, T.n_Table_records, fsT_len, ?_⟩
      rw [fsT_rec_i]
      refine ⟨_, _, rfl, _, rfl, x, cTable, xd, _, rfl, upd_same, T.cl_Table, T.n_Table_numbers, fsT_len, ?_⟩
      rw [fsT_num_i]
      refine ⟨_, _, rfl, _, rfl, x, cTable, xd, _, rfl, upd_same, T.cl_Table, T.n_Table_made, fsT_len, ?_⟩
      rw [fsT_made_i]
      have e5 := e14.mutF (o := .ins cTable xd (fsT p1 nb1 l1 0)) fx hx4 rfl
      have e6 := e5.mutF (o := .ins cTable xd (fsT p1 p2 l1 0)) fx upd_same rfl
      have e7 := e6.mutF (o := .ins cTable xd (fsT p1 p2 l1 mk)) fx upd_same rfl
      have xp1 : p1 ≠ x := fun z => by rw [z, hx1] at hp1; cases hp1
      have xp2 : p2 ≠ x := fun z => by rw [z, e2.at hx1] at hp2; cases hp2
      have p12 : p1 ≠ p2 := fun z => by rw [← z, upd_same] at hp2; cases hp2
      have qp1 : p1 ≠ q := fun z => by rw [← z, e3.at upd_same] at hq; cases hq
      have qp2 : p2 ≠ q := fun z => by rw [← z, upd_same] at hq; cases hq
      have g7p1 : upd (upd (upd (upd (upd (upd H1 p1 (.dK (kvR U.names ad))) p2 (.dK kv)) q (.tup [.ref p1, .ref p2, .int mk])) x (.ins cTable xd (fsT p1 nb1 l1 0))) x (.ins cTable xd (fsT p1 p2 l1 0))) x (.ins cTable xd (fsT p1 p2 l1 mk)) p1 = some (.dK (kvR U.names ad)) := by
        rw [upd_ne xp1, upd_ne xp1, upd_ne xp1, upd_ne qp1, upd_ne p12, upd_same]
      have g7p2 : upd (upd (upd (upd (upd (upd H1 p1 (.dK (kvR U.names ad))) p2 (.dK kv)) q (.tup [.ref p1, .ref p2, .int mk])) x (.ins cTable xd (fsT p1 nb1 l1 0))) x (.ins cTable xd (fsT p1 p2 l1 0))) x (.ins cTable xd (fsT p1 p2 l1 mk)) p2 = some (.dK kv) := by
        rw [upd_ne xp2, upd_ne xp2, upd_ne xp2, upd_ne qp2, upd_same]
      have g7x : upd (upd (upd (upd (upd (upd H1 p1 (.dK (kvR U.names ad))) p2 (.dK kv)) q (.tup [.ref p1, .ref p2, .int mk])) x (.ins cTable xd (fsT p1 nb1 l1 0))) x (.ins cTable xd (fsT p1 p2 l1 0))) x (.ins cTable xd (fsT p1 p2 l1 mk)) x = some (.ins cTable xd (fsT p1 p2 l1 mk)) := upd_same
      have f1 : Fre H p1 := e1.fr0 hp1
      have f2 : Fre H p2 := (e1.trans e2).fr0 hp2
      generalize hH7 : upd (upd (upd (upd (upd (upd H1 p1 (.dK (kvR U.names ad))) p2 (.dK kv)) q (.tup [.ref p1, .ref p2, .int mk])) x (.ins cTable xd (fsT p1 nb1 l1 0))) x (.ins cTable xd (fsT p1 p2 l1 0))) x (.ins cTable xd (fsT p1 p2 l1 mk)) = H7 at e7 g7p1 g7p2 g7x
      show gNil _ _ _ _
      refine ⟨rfl, ?_⟩
      refine ⟨l, .dK (kvR U.names la), e7.at hl0, trivial, fun od => ⟨_, rfl, _, cTable, dx, _, _, rfl, lock_at (e7.at hl0) (e7.at ht) (by intro q; cases q), T.cl_Table, T.n_Table_lists, fsT_lists, l, od, _, rfl, upd_same, fun D hD => ?_⟩⟩
      have nD : D ≠ l := by rintro rfl; rw [upd_same] at hD; cases hD
      have hl7 := e7.at hl0
      refine it_out (ws_items (d := l) (o := od) (l := U.names) (f := fun n => V.ref (la n))) (fun i H' => Le (upd H7 l (.frz od (.dK (kvR U.names la)))) H' ∧ ∃ la', H' D = some (.dK (kvR (U.names.take i) la')) ∧ (∀ n ∈ U.names.take i, H' (la' n) = some (.lst (vS (U.ls n))) ∧ Fre H7 (la' n)) ∧ ∀ n ∈ U.names.take i, ∀ m ∈ U.names.take i, la' n = la' m → n = m)
        ⟨Le.new hD, fun _ => 0, upd_same, fun n hn => by simp at hn, fun n hn => by simp at hn⟩ (fun i H' _ p => p.1.at upd_same) ?_ ?_
      · rintro i y Ha Hb hi ⟨e, la', hd, hlp, hin⟩ ⟨p, z, rfl, hpn, rfl, hz⟩
        have hzn := List.mem_of_getElem? hz
        have ep := Le.new (o := .tup [.str z, .ref (la z)]) hpn
        have eb := e.trans ep
        have hlz := eb.at (lock_at hl7 (e7.at (hla z hzn)) (by intro q; cases q))
        refine ⟨p, _, rfl, SqT.of upd_same, rfl, _, _, rfl, _, _, rfl, rfl, rfl, _, rfl, _, rfl, la z, _, rfl, .inl (SqL.of hlz), fun l2 hl2 => ?_⟩
        have e2' := Le.new (o := .lst (vS (U.ls z))) hl2
        have hzo : z ∉ U.names.take i := fun hm => by
          obtain ⟨j, hj, ej⟩ := List.mem_iff_getElem.mp hm
          rw [List.getElem_take] at ej
          have hj2 : j < i := by rw [List.length_take] at hj; omega
          have hjl : j < U.names.length := by omega
          have := (List.getElem?_inj hjl ok.nd).mp ((List.getElem?_eq_getElem hjl).trans ((congrArg some ej).trans hz.symm))
          omega
        have hdd := (ep.trans e2').at hd
        have f2l : Fre H7 l2 := lock_fre hl7 (eb.fr0 hl2)
        refine ⟨kvR (U.names.take i) la', Sum.inr z, rfl, hdd, sz5' (by rw [kvR_len, List.length_take]; have := ok.sz; omega), (eb.trans e2').mut hD hdd rfl, _, by rw [kvR_put hzo, ← take_snoc hz]; exact upd_same, ?_, ?_⟩
        · intro n hn
          rw [take_snoc hz] at hn
          have nl2 : ∀ m, (if m = z then l2 else la' m) = if m = z then l2 else la' m := fun _ => rfl
          by_cases hnz : n = z
          · subst hnz
            rw [if_pos rfl]
            exact ⟨by rw [upd_ne (fun q => by rw [q, (ep.at hd)] at hl2; cases hl2)]; exact upd_same, f2l⟩
          · rw [if_neg hnz]
            obtain ⟨q1, q2⟩ := hlp n ((List.mem_append.mp hn).elim id fun q => absurd (List.mem_singleton.mp q) hnz)
            exact ⟨by rw [upd_ne (fun q => by rw [q, hd] at q1; cases q1)]; exact (ep.trans e2').at q1, q2⟩
        · intro n hn m hm
          rw [take_snoc hz] at hn hm
          have old : ∀ m ∈ U.names.take i ++ [z], m ≠ z → la' m ≠ l2 := fun m hm hne q => by
            have q1 := (hlp m ((List.mem_append.mp hm).elim id fun q => absurd (List.mem_singleton.mp q) hne)).1
            rw [q] at q1
            rw [ep.at q1] at hl2
            cases hl2
          by_cases hnz : n = z
          · by_cases hmz : m = z
            · intro _; rw [hnz, hmz]
            · rw [if_pos hnz, if_neg hmz]
              exact fun q => absurd q.symm (old m hm hmz)
          · by_cases hmz : m = z
            · rw [if_neg hnz, if_pos hmz]
              exact fun q => absurd q (old n hn hnz)
            · rw [if_neg hnz, if_neg hmz]
              exact hin n ((List.mem_append.mp hn).elim id fun q => absurd (List.mem_singleton.mp q) hnz) m ((List.mem_append.mp hm).elim id fun q => absurd (List.mem_singleton.mp q) hmz)
      · rintro Hc ⟨e, la', hd, hlp, hin⟩
        rw [List.take_length] at hd hlp hin
        refine ⟨e.at upd_same, ?_⟩
        have e8 : Le H7 (upd Hc l (.dK (kvR U.names la))) := lock_le hl7 rfl e
        refine ⟨_, rfl, x, cTable, xd, _, rfl, e8.at g7x, T.cl_Table, T.n_Table_lists, fsT_len, _, rfl, ?_⟩
        rw [fsT_lst_i]
        have e9 := (e7.trans e8).mutF (o := .ins cTable xd (fsT p1 p2 D mk)) fx (e8.at g7x) rfl
        have fD : Fre H D := e7.fre (lock_fre hl7 (.of hD))
        have hD8 : upd Hc l (.dK (kvR U.names la)) D = some (.dK (kvR U.names la')) := by rw [upd_ne nD]; exact hd
        have n1 : ∀ {b : Addr} {o : HO}, upd Hc l (.dK (kvR U.names la)) b = some o → (∀ fs, o ≠ .ins cTable xd fs) → upd (upd Hc l (.dK (kvR U.names la))) x (.ins cTable xd (fsT p1 p2 D mk)) b = some o := fun h n => by
          rw [upd_ne (fun z => by rw [z, e8.at g7x] at h; exact n _ (Option.some.inj h).symm)]
          exact h
        obtain ⟨lf, mf, hlf⟩ := EntAt.pick hE
        have e08 := e7.trans e8
        have nlx : ∀ n ∈ U.names, upd (upd Hc l (.dK (kvR U.names la))) x (.ins cTable xd (fsT p1 p2 D mk)) (la' n) = some (.lst (vS (U.ls n))) := fun n hn => by
          refine n1 ?_ (fun fs z => by cases z)
          rw [upd_ne (fun z => by have q1 := (hlp n hn).1; rw [z, e.at upd_same] at q1; cases q1)]
          exact (hlp n hn).1
        refine k x _ e9 ⟨xd, p1, p2, D, mk, ad, lf, mf, la', upd_same, n1 (e8.at g7p1) (fun fs z => by cases z), fun n hn => (hlf n hn).mono e9, ⟨kv, n1 (e8.at g7p2) (fun fs z => by cases z), hkz⟩, n1 hD8 (fun fs z => by cases z), nlx, fx, f1, f2, fD, fun n hn => e7.fre (hlp n hn).2, hin, fun n hn m hm z => ?_, p12, ?_, ?_, fun n hn => ?_⟩
        · obtain ⟨_, _, _, _, _, _, _, hln⟩ := hlf n hn
          exact (hlp m hm).2 (.lst (vS (U.cl n).line)) rfl (by rw [← z]; exact e7.at hln)
        · exact fun z => lock_fre hl7 (.of hD) (.dK (kvR U.names ad)) rfl (by rw [← z]; exact g7p1)
        · exact fun z => lock_fre hl7 (.of hD) (.dK kv) rfl (by rw [← z]; exact g7p2)
        · obtain ⟨_, _, _, _, _, hm, _, _⟩ := hlf n hn
          exact ⟨f1.ne hm, f2.ne hm, fD.ne hm⟩
  exact ⟨⟨_, fd, G, T.m_Table_copied, T.cl_Table, F.bindsN (ps := ["self"]) fun _ _ _ _ _ _ us hl => match us, hl with | [_], _ => rfl⟩⟩


theorem pats_len (ms : List Str) : (patsOf ms).length = 2 ^ ms.length := by
  have go : ∀ (ms : List Str) (ps : List (List Str)), (ms.foldl (fun ps m => ps ++ ps.map (· ++ [m])) ps).length = ps.length * 2 ^ ms.length := by
    intro ms
    induction ms with
    | nil => intro ps; simp
    | cons m ms ih =>
      intro ps
      rw [List.foldl_cons, ih, List.length_append, List.length_map, List.length_cons, Nat.pow_succ, ← Nat.two_mul]
      rw [Nat.mul_comm 2, Nat.mul_assoc, Nat.mul_comm 2]
  have := go ms [[]]
  simpa [patsOf] using this
theorem pats_snoc (ms : List Str) (m : Str) : patsOf (ms ++ [m]) = patsOf ms ++ (patsOf ms).map (· ++ [m]) := by
  unfold patsOf
  rw [List.foldl_append]
  rfl
theorem Tb.Ok.meth_in {U : Tb} (ok : U.Ok) {m : Str} (h : U.meth m) : m ∈ Tb.METHS := by
  obtain ⟨n, hn, h, h1, c, h2, h3⟩ := h
  exact ok.mth n hn h h1 c h2 m h3
theorem Paired.append {α β : Type} {R : α → β → Prop} : ∀ {l l' : List α} {r r' : List β}, Paired R l r → Paired R l' r' → Paired R (l ++ l') (r ++ r')
  | _, _, _, _, .nil, h => h
  | _, _, _, _, .cons h t, h' => .cons h (Paired.append t h')
theorem Paired.mapL {α β γ : Type} {R : α → β → Prop} {S : γ → β → Prop} {f : α → γ} : ∀ {l : List α} {r : List β}, Paired R l r → (∀ a b, R a b → S (f a) b) → Paired S (l.map f) r
  | _, _, .nil, _ => .nil
  | _, _, .cons h t, k => .cons (k _ _ h) (Paired.mapL t k)
def PatR (H : Hp) (ms : List Str) (v : V) : Prop := ∃ a, v = .ref a ∧ H a = some (.tup (vS ms))
theorem pats_mem {ms : List Str} {p : List Str} (h : p ∈ patsOf ms) : p.length ≤ ms.length := by
  have go : ∀ (ms : List Str) (ps : List (List Str)) (k : Nat), (∀ p ∈ ps, p.length ≤ k) → ∀ p ∈ ms.foldl (fun ps m => ps ++ ps.map (· ++ [m])) ps, p.length ≤ k + ms.length := by
    intro ms
    induction ms with
    | nil => intro ps k h p hp; exact h p hp
    | cons m ms ih =>
      intro ps k h p hp
      rw [List.foldl_cons] at hp
      have q := ih _ (k + 1) (fun p hp => by
        rcases List.mem_append.mp hp with z | z
        · exact Nat.le_succ_of_le (h p z)
        · obtain ⟨r, hr, rfl⟩ := List.mem_map.mp z
          rw [List.length_append]
          exact Nat.succ_le_succ (h r hr)) p hp
      rw [List.length_cons]
      omega
  have := go ms [[]] 0 (by simp) p h
  omega

theorem sc_patterns_in : FnScope ["table", "found", "method", "pattern"] ["table"] (defScope s_patterns_in) := ⟨rfl, rfl, rfl, by decide +kernel, rfl, by decide +kernel, by decide +kernel⟩
theorem ok_patterns_in (T : Tx K mg) (c_methods_in : Cal P w K mg base "methods_in" 2 ["table"] spMeths) : Cal P w K mg base "patterns_in" 3 ["table"] spPats := by
  obtain ⟨fd, F⟩ := T.fn _ fi_patterns_in
  have G : FnOk P w K mg base CX0 3 d_patterns_in.f fd ["table"] spPats := by
    refine F.ok sc_patterns_in (fun vs H Q E h => ?_) (fun cdv A outer s H vs Q E hr h => ⟨_, PSs.nox (X := cxOf CX0 P w K mg base _ _ _ _ cdv A outer s H E) ((pss_cons (ps_set (i := 1) sc_patterns_in.nd rfl (Or.inl rfl) (pe_lst (pa_cons (pe_tup pa_nil) pa_nil)))
    (pss_cons (ps_for PassesOwn.never rfl (wlist K (pc c_methods_in hr rfl (pa_cons (pv 0) pa_nil))) (pg_name (i := 2) sc_patterns_in.nd rfl (Or.inr rfl)) (pss_one (ps_set (i := 1) sc_patterns_in.nd rfl (Or.inl rfl) (pe_op op_cat (pv 1) (pe_lc (own := [("pattern", 3)]) rfl sc_patterns_in.nd (wlist K (pv 1)) (blkOk_by (N := ["table", "found", "method", "pattern"]) (sc := defScope s_patterns_in) (own := [("pattern", 3)]) (by decide +kernel)) (fun _ _ _ _ _ => (pg_name (i := 3) sc_patterns_in.nd rfl (Or.inl rfl))) (fun _ _ _ _ _ => pts_nil) (fun _ _ _ _ _ => (pe_op (wcat K) (pv 3) (pe_tup (pa_cons (pv 2) pa_nil)))))))))
    (pss_one (ps_ret (pv 1)))))), ?_⟩)
    · obtain ⟨_, _, rfl, _⟩ := h
      rfl
    · obtain ⟨t, U, rfl, R, ok, k⟩ := h
      refine ⟨(by decide : 0 ≤ sizeLine), fun p0 hp0 => ⟨(by decide : 1 ≤ sizeLine), fun f0 hf0 => ?_⟩⟩
      have e0 := (Le.new (o := .tup []) hp0).trans (Le.new (o := .lst [V.ref p0]) hf0)
      show gName 1 _ _ _ _
      refine ⟨_, rfl, t, U, rfl, R.mono e0, ok, fun q H1 ms e1 hq hnd hms => ⟨q, rfl, ⟨_, SqL.of hq⟩, ?_⟩⟩
      have hml : ms.length ≤ 5 := length_le_of_nodup_of_subset _ Tb.METHS hnd fun m hm => ok.meth_in ((hms m).1 hm)
      have hpl : ∀ i, (patsOf (ms.take i)).length ≤ 32 := fun i => by
        rw [pats_len]
        exact Nat.pow_le_pow_right (by decide) (Nat.le_trans (List.length_take_le' ..) hml)
      refine for_it (ws_list (K := K) (a := q) (l := ms)) (fun i σ H' => Le H1 H' ∧ ∃ f v2 v3, σ = [some (.ref t), some (.ref f), v2, v3] ∧ PatsAt H' f (patsOf (ms.take i))) ⟨Le.refl _, f0, none, none, rfl, [V.ref p0], e1.at upd_same, .cons ⟨p0, rfl, e1.at ?_⟩ .nil⟩ (fun i σ H' _ p => SqL.of (p.1.at hq)) ?_ ?_
      · rw [upd_ne (fun z => by rw [← z, upd_same] at hf0; cases hf0)]
        exact upd_same
      · rintro i x σ Ha Hb hi ⟨e, f, v2, v3, rfl, rs, hf, hps⟩ ⟨rfl, m, hm, rfl⟩
        have hlen := Paired.length hps
        have hz := hpl i
        refine ⟨_, rfl, _, rfl, f, rfl, ⟨_, SqL.of hf⟩, fun D hD => ?_⟩
        have w := walk_list (K := K) (a := f) (xs := rs)
        refine lc_go w (fun D j y H' => ∃ p, (patsOf (ms.take i))[j]? = some p ∧ ∃ a, y = .ref a ∧ a ≠ D ∧ H' a = some (.tup (vS (p ++ [m])))) (fun _ => true) (by omega) hD (fun i H x H' y => by rw [y.1]; exact Le.refl _) (fun H' e => SqL.of (e.at hf)) ?_ ?_ ?_
        · rintro j y Hc Hd eX ⟨p, h1, a, h2, h3, h4⟩
          exact ⟨p, h1, a, h2, h3, eX.at h3 h4⟩
        · rintro j x Hc Hd hj e1' e2' ⟨rfl, hx⟩ ⟨ys, hys⟩ QF QT h1 h2
          have hjp : j < (patsOf (ms.take i)).length := by omega
          obtain ⟨b, hb, a, rfl, ha⟩ := Paired.at hps (List.getElem?_eq_getElem hjp)
          rw [hx] at hb
          cases hb
          have hpz := pats_mem (List.getElem_mem hjp)
          have ha2 := e2'.at ha
          refine ⟨rfl, _, rfl, _, rfl, (by decide : 1 ≤ sizeLine), fun q hq => ?_⟩
          have eq1 := Le.new (o := .tup [V.str m]) hq
          have qD : q ≠ D := fun z => by rw [z, hys] at hq; cases hq
          have ev : vS ((patsOf (ms.take i))[j]) ++ [V.str m] = vS ((patsOf (ms.take i))[j] ++ [m]) := by rw [vS_app]; rfl
          refine ⟨a, q, _, [V.str m], rfl, rfl, SqT.of (eq1.at ha2), SqT.of upd_same, sz5 ?_, fun z => ?_, fun _ z => (by cases z), fun _ _ p2 hp2 => ?_⟩
          · rw [vS_len]
            show _ + 1 ≤ _
            rw [List.length_take] at hpz
            omega
          · refine h2 _ _ eq1 rfl ⟨_, List.getElem?_eq_getElem hjp, q, rfl, qD, ?_⟩
            rw [← ev, z]
            exact upd_same
          · refine h2 _ _ (eq1.trans (Le.new hp2)) rfl ⟨_, List.getElem?_eq_getElem hjp, p2, rfl, fun z => ?_, ?_⟩
            · rw [z, eq1.at hys] at hp2
              cases hp2
            · rw [ev]
              exact upd_same
        · rintro ys H2 e2' hD2 hg
          have hpr : Paired (fun p y => ∃ a, y = .ref a ∧ a ≠ D ∧ H2 a = some (.tup (vS (p ++ [m])))) (patsOf (ms.take i)) ys := got_paired hlen.symm (by have q := hg; unfold Got at q; rw [filter_yes] at q; exact q)
          have hl2 := Paired.length hpr
          refine ⟨f, D, rs, ys, rfl, rfl, e2'.at hf, hD2, sz5 (by omega), fun p hp => ?_⟩
          have e3 := e2'.trans (Le.new (o := .lst (rs ++ ys)) hp)
          show gName 1 _ _ _ _
          refine ⟨e.trans e3, p, _, _, rfl, rs ++ ys, upd_same, ?_⟩
          rw [take_snoc hm, pats_snoc]
          refine Paired.append (Paired.mapP hps fun _ _ ⟨a, h1, h2⟩ => ⟨a, h1, e3.at h2⟩) (Paired.mapL hpr fun p v ⟨a, h1, _, h2⟩ => ⟨a, h1, (Le.new hp).at h2⟩)
      · rintro σ H' ⟨e, f, v2, v3, rfl, hp⟩
        rw [List.take_length] at hp
        refine ⟨_, rfl, ?_⟩
        exact k f H' ms ((e0.trans e1).trans e) hp (by have := hpl ms.length; rw [List.take_length] at this; omega) hms
  exact ⟨⟨_, fd, G, T.g_patterns_in, F.kp, F.bindsN (ps := ["table"]) fun _ _ _ _ _ _ us hl => match us, hl with | [_], _ => rfl⟩⟩

end
end Sw
set_option linter.all false
set_option maxRecDepth 100000
set_option maxHeartbeats 4000000
/-! SwF9: needless registrations. Terms printed by gen_term.py. -/
namespace Sw
open PySem PySem.Spec PyProof.Rows L2 LamX
section
variable {P : Program} {w : World} {K : PySem.W.Frag} {mg : Str → Option Value} {base : Heap}


/-! ### outcomes as data -/
def OVok (v : V) : Prop := v = .non ∨ v = .str "won" ∨ v = .str "reached" ∨ v = .str "neither"
def dO : V → PyData
  | .str z => .str z
  | _ => .none
theorem Outc.ok {U : Tb} {l : List Str} {c d : Str} {ms : List Str} {v : V} (h : Outc U l c d ms v) : OVok v := by
  rcases h with ⟨_, h⟩ | ⟨_, es, _, h⟩
  · exact .inl h
  · split at h
    · exact .inr (.inl h)
    · split at h
      · exact .inr (.inr (.inl h))
      · exact .inr (.inr (.inr h))
theorem dp_O {H : Hp} {v : V} (h : OVok v) : Dp K H v (dO v) := by
  rcases h with h | h | h | h <;> subst h
  · exact .non
  · exact .str _
  · exact .str _
  · exact .str _
theorem dpAll_O {H : Hp} : ∀ {vs : List V}, (∀ v ∈ vs, OVok v) → DpAll K H vs (vs.map dO)
  | [], _ => .nil
  | v :: vs, h => .cons (dp_O (h v List.mem_cons_self)) (dpAll_O fun w hw => h w (List.mem_cons_of_mem _ hw))
theorem eqv_O {v w : V} (h : OVok v) (k : OVok w) : (PyData.eqv (dO v) (dO w) = true ↔ v = w) := by
  rcases h with h | h | h | h <;> rcases k with k | k | k | k <;> subst h <;> subst k <;> first
    | exact ⟨fun _ => rfl, fun _ => by kernel_rfl⟩
    | exact ⟨fun z => absurd z (by unfold dO; decide +kernel), fun z => by injection z with z; exact absurd z (by decide +kernel)⟩
    | exact ⟨fun z => absurd z (by unfold dO; decide +kernel), fun z => by injection z⟩
theorem eqvAll_O : ∀ {vs ws : List V}, (∀ v ∈ vs, OVok v) → (∀ v ∈ ws, OVok v) → (PyData.eqvAll (vs.map dO) (ws.map dO) = true ↔ vs = ws)
  | [], [], _, _ => ⟨fun _ => rfl, fun _ => by rfl⟩
  | [], w :: ws, _, _ => ⟨fun z => (by cases z), fun z => (by cases z)⟩
  | v :: vs, [], _, _ => ⟨fun z => (by cases z), fun z => (by cases z)⟩
  | v :: vs, w :: ws, h, k => by
    rw [List.map_cons, List.map_cons]
    show (PyData.eqv (dO v) (dO w) && PyData.eqvAll (vs.map dO) (ws.map dO)) = true ↔ _
    rw [Bool.and_eq_true, eqv_O (h v List.mem_cons_self) (k w List.mem_cons_self), eqvAll_O (fun x hx => h x (List.mem_cons_of_mem _ hx)) (fun x hx => k x (List.mem_cons_of_mem _ hx))]
    exact ⟨fun ⟨a, b⟩ => by rw [a, b], fun z => by injection z with a b; exact ⟨a, b⟩⟩
theorem lay_O : ∀ {vs : List V}, (∀ v ∈ vs, OVok v) → PyData.canLayAll0 (vs.map dO) = true ∧ PyData.depthAll (vs.map dO) = 0
  | [], _ => ⟨rfl, rfl⟩
  | v :: vs, h => by
    obtain ⟨h1, h2⟩ := lay_O fun x hx => h x (List.mem_cons_of_mem _ hx)
    have q : PyData.canLay0 (dO v) = true ∧ PyData.depth (dO v) = 0 := by
      rcases h v List.mem_cons_self with e | e | e | e <;> subst e <;> exact ⟨by kernel_rfl, by kernel_rfl⟩
    rw [List.map_cons]
    refine ⟨?_, ?_⟩
    · show (PyData.canLay0 (dO v) && PyData.canLayAll0 (vs.map dO)) = true
      rw [q.1, h1]
      rfl
    · show max (PyData.depth (dO v)) (PyData.depthAll (vs.map dO)) = 0
      rw [q.2, h2]
      rfl
theorem Outc.cong {U : Tb} {l l' : List Str} {c d : Str} {ms : List Str} {v : V} (hl : ∀ x, x ∈ l ↔ x ∈ l') (h : Outc U l c d ms v) : Outc U l' c d ms v := by
  have e : l.contains = l'.contains := funext fun x => Bool.eq_iff_iff.mpr (by rw [List.contains_iff_mem, List.contains_iff_mem]; exact hl x)
  have e2 : U.led l = U.led l' := by
    funext ms u
    unfold Tb.led Tb.nin
    rw [e]
  unfold Outc Tb.Led at h ⊢
  rw [← e2]
  exact h
theorem any_mem {α : Type} {p : α → Bool} {l l' : List α} (h : ∀ x, x ∈ l ↔ x ∈ l') : l.any p = l'.any p := Bool.eq_iff_iff.mpr (by
  rw [List.any_eq_true, List.any_eq_true]
  exact ⟨fun ⟨x, a, b⟩ => ⟨x, (h x).1 a, b⟩, fun ⟨x, a, b⟩ => ⟨x, (h x).2 a, b⟩⟩)
theorem Outc.det {U : Tb} {l : List Str} {c d : Str} {ms : List Str} {v w : V} (h : Outc U l c d ms v) (k : Outc U l c d ms w) : v = w := by
  rcases h with ⟨a, h⟩ | ⟨a, es, b, h⟩ <;> rcases k with ⟨a', k⟩ | ⟨a', es', b', k⟩
  · rw [h, k]
  · rw [a] at a'; cases a'
  · rw [a] at a'; cases a'
  · have m : ∀ x, x ∈ es ↔ x ∈ es' := fun x => (b x).trans (b' x).symm
    have e1 : U.wins es ms = U.wins es' ms := any_mem m
    have e2 : U.reached es d ms = U.reached es' d ms := by
      unfold Tb.reached
      rw [any_mem m, show es.contains d = es'.contains d from Bool.eq_iff_iff.mpr (by rw [List.contains_iff_mem, List.contains_iff_mem]; exact m d)]
    rw [h, k, e1, e2]
theorem Rd.cong {U : Tb} {l l' : List Str} {c d : Str} (hl : ∀ x, x ∈ l ↔ x ∈ l') : U.Rd l c d ↔ U.Rd l' c d := by
  have e : l.contains = l'.contains := funext fun x => Bool.eq_iff_iff.mpr (by rw [List.contains_iff_mem, List.contains_iff_mem]; exact hl x)
  unfold Tb.Rd Tb.nin
  rw [e]
/-- the classes held by c and d -/
def Tb.hl (U : Tb) (c d : Str) : List Str := (U.cl c).line ++ (U.cl d).line
/-- the same state at c, d -/
structure SameSt (U1 U2 : Tb) (c d : Str) (ps : List (List Str)) : Prop where
  out : ∀ ms ∈ ps, ∀ v, Outc U1 (U1.hl c d) c d ms v ↔ Outc U2 (U2.hl c d) c d ms v
  road : (U1.sworn d = true ∧ U1.Rd (U1.hl c d) c d) ↔ (U2.sworn d = true ∧ U2.Rd (U2.hl c d) c d)
theorem paired_mem {α : Type} {R : α → V → Prop} {S : V → Prop} : ∀ {l : List α} {r : List V}, Paired R l r → (∀ a b, R a b → S b) → ∀ b ∈ r, S b
  | _, _, .nil, _ => fun b hb => by cases hb
  | _, _, .cons h t, k => fun b hb => by
    rcases List.mem_cons.mp hb with e | e
    · rw [e]; exact k _ _ h
    · exact paired_mem t k b e
theorem paired_two {α : Type} {R S : α → V → Prop} (hd : ∀ a v w, R a v → R a w → v = w) (hd' : ∀ a v w, S a v → S a w → v = w) : ∀ {l : List α} {r r' : List V}, Paired R l r → Paired S l r' → (r = r' ↔ ∀ a ∈ l, ∀ v, R a v ↔ S a v)
  | _, _, _, .nil, .nil => ⟨fun _ a ha => (by cases ha), fun _ => rfl⟩
  | a :: l, v :: r, w :: r', .cons h t, .cons h' t' => by
    have ih := paired_two hd hd' t t'
    constructor
    · intro e
      injection e with e1 e2
      subst e1
      intro b hb
      rcases List.mem_cons.mp hb with z | z
      · subst z
        exact fun x => ⟨fun q => by rw [hd _ _ _ q h]; exact h', fun q => by rw [hd' _ _ _ q h']; exact h⟩
      · exact ih.1 e2 b z
    · intro q
      rw [ih.2 fun b hb => q b (List.mem_cons_of_mem _ hb), hd' a v w ((q a List.mem_cons_self v).1 h) h']
theorem state_eq {H : Hp} {v1 v2 : V} {U1 U2 : Tb} {c d : Str} {ps : List (List Str)} {Q : VK} (h1 : StateAt H v1 U1 c d ps) (h2 : StateAt H v2 U2 c d ps) (k : ∀ r : Bool, (r = true ↔ SameSt U1 U2 c d ps) → Q (.bl r) H) : rEqD K v1 v2 H Q := by
  obtain ⟨t1, l1, vs1, b1, m1, rfl, g1, g2, g3, g4, g5⟩ := h1
  obtain ⟨t2, l2, vs2, b2, m2, rfl, f1, f2, f3, f4, f5⟩ := h2
  have o1 : ∀ v ∈ vs1, OVok v := paired_mem g4 fun _ _ q => q.ok
  have o2 : ∀ v ∈ vs2, OVok v := paired_mem f4 fun _ _ q => q.ok
  have hm1 : ∀ x, x ∈ m1 ↔ x ∈ U1.hl c d := fun x => (g3 x).trans List.mem_append.symm
  have hm2 : ∀ x, x ∈ m2 ↔ x ∈ U2.hl c d := fun x => (f3 x).trans List.mem_append.symm
  have p1 : Paired (fun ms v => Outc U1 (U1.hl c d) c d ms v) ps vs1 := Paired.mapP g4 fun _ _ q => q.cong hm1
  have p2 : Paired (fun ms v => Outc U2 (U2.hl c d) c d ms v) ps vs2 := Paired.mapP f4 fun _ _ q => q.cong hm2
  have sh : ∀ {vs : List V} {b : Bool}, (∀ v ∈ vs, OVok v) → SeqAt.shaped (.tuple [.list (vs.map dO), .bool b]) = true := by
    intro vs b o
    obtain ⟨a1, a2⟩ := lay_O o
    unfold SeqAt.shaped
    have e1 : PyData.canLay0 (.tuple [.list (vs.map dO), .bool b]) = true := by
      show (PyData.canLayAll0 (vs.map dO) && (true && true)) = true
      rw [a1]
      rfl
    have e2 : PyData.depth (.tuple [.list (vs.map dO), .bool b]) = 2 := by
      show max (PyData.depthAll (vs.map dO) + 1) (max 0 0) + 1 = 2
      rw [a2]
      rfl
    rw [e1, e2]
    rfl
  refine ⟨_, _, .tup (SqT.of g1) (.cons (.lst (SqL.of g2) (dpAll_O o1)) (.cons (.bl b1) .nil)), .tup (SqT.of f1) (.cons (.lst (SqL.of f2) (dpAll_O o2)) (.cons (.bl b2) .nil)), sh o1, sh o2, k _ ?_⟩
  show (PyData.eqvAll (vs1.map dO) (vs2.map dO) && ((b1 == b2) && true)) = true ↔ _
  rw [Bool.and_eq_true, Bool.and_true, eqvAll_O o1 o2, beq_iff_eq, paired_two (R := fun ms v => Outc U1 (U1.hl c d) c d ms v) (S := fun ms v => Outc U2 (U2.hl c d) c d ms v) (fun _ _ _ a b => Outc.det a b) (fun _ _ _ a b => Outc.det a b) p1 p2]
  have r1 := g5.trans (and_congr_right fun _ => Rd.cong hm1)
  have r2 := f5.trans (and_congr_right fun _ => Rd.cong hm2)
  constructor
  · rintro ⟨a, b⟩
    exact ⟨a, by rw [← r1, ← r2, b]⟩
  · rintro ⟨a, b⟩
    refine ⟨a, Bool.eq_iff_iff.mpr ?_⟩
    rw [r1, r2]
    exact b
theorem Tb.Ok.rem {U : Tb} (ok : U.Ok) (a b : Str) : (U.rem a b).Ok := by
  refine ⟨ok.nd, ok.sz, ok.line, ok.lsz, ok.psz, ok.pin, fun n hn => ?_, fun n hn m hm => ?_, fun n hn => ?_, ok.nms, ok.mth, ok.mrk, ok.mkd, ok.hsz⟩
  · show (if n = a then (U.ls n).erase b else U.ls n).length ≤ 100
    split
    · exact Nat.le_trans List.length_erase_le (ok.rsz n hn)
    · exact ok.rsz n hn
  · have hm' : m ∈ (if n = a then (U.ls n).erase b else U.ls n) := hm
    split at hm'
    · exact ok.reg n hn m (List.mem_of_mem_erase hm')
    · exact ok.reg n hn m hm'
  · show (if n = a then (U.ls n).erase b else U.ls n).Nodup
    split
    · exact (ok.lnd n hn).erase b
    · exact ok.lnd n hn
def spNeedIn : Sp := fun vs H Q _ => ∃ t U a b pl ps, vs = [.ref t, .str a, .str b, .ref pl] ∧ Tabs TBS H ∧ TabAt H t U ∧ U.Ok ∧ a ∈ U.names ∧ b ∈ U.ls a ∧ PatsAt H pl ps ∧ ps.length ≤ 1000 ∧ ∀ r H', Le H H' → (r = true ↔ SameSt (U.rem a b) U a b ps) → Q (.bl r) H'

theorem sc_is_needless_in : FnScope ["table", "cls", "other", "patterns", "bare"] ["table", "cls", "other", "patterns"] (defScope s_is_needless_in) := ⟨rfl, rfl, rfl, by decide +kernel, rfl, by decide +kernel, by decide +kernel⟩
theorem ok_is_needless_in (T : Tx K mg) (c_Table_copied : CalM P w K mg base cTable "copied" 3 ["self"] spTCopied) (c_Table_remove_registration : CalM P w K mg base cTable "remove_registration" 1 ["self", "name", "other"] spTRem) (c_state_of : Cal P w K mg base "state_of" 9 ["table", "cls", "other", "patterns"] spState) : Cal P w K mg base "is_needless_in" 10 ["table", "cls", "other", "patterns"] spNeedIn := by
  obtain ⟨fd, F⟩ := T.fn _ fi_is_needless_in
  have G : FnOk P w K mg base CX0 10 d_is_needless_in.f fd ["table", "cls", "other", "patterns"] spNeedIn := by
    refine F.ok sc_is_needless_in (fun vs H Q E h => ?_) (fun cdv A outer s H vs Q E hr h => ⟨_, PSs.nox (X := cxOf CX0 P w K mg base _ _ _ _ cdv A outer s H E) ((pss_cons (ps_set (i := 4) sc_is_needless_in.nd rfl (Or.inl rfl) (pm0 c_Table_copied (hr.mono (by decide : 3 ≤ _)) (pv 0)))
    (pss_cons (ps_expr (pm c_Table_remove_registration (hr.mono (by decide : 1 ≤ _)) (pv 4) (pa_cons (pv 1) (pa_cons (pv 2) pa_nil))))
    (pss_one (ps_ret (pe_cmpR (weq K hr.units) (pc c_state_of hr rfl (pa_cons (pv 4) (pa_cons (pv 1) (pa_cons (pv 2) (pa_cons (pv 3) pa_nil))))) (pc c_state_of hr rfl (pa_cons (pv 0) (pa_cons (pv 1) (pa_cons (pv 2) (pa_cons (pv 3) pa_nil))))) (nomark _))))))), ?_⟩)
    · obtain ⟨_, _, _, _, _, _, rfl, _⟩ := h
      rfl
    · obtain ⟨t, U, a, b, pl, ps, rfl, tb, R, ok, ha, hb, hp, hz, k⟩ := h
      obtain ⟨dx, r, nb, ll, mk, ht⟩ := R.ins
      have hbn := ok.reg a ha b hb
      refine ⟨_, rfl, t, dx, _, rfl, ht, fsT_no_copied, t, U, rfl, R, ok, fun t1 H1 e1 F => ?_⟩
      show gName 4 _ _ _ _
      obtain ⟨dx1, r1, nb1, ll1, mk1, ht1⟩ := F.tab.ins
      refine ⟨_, rfl, t1, dx1, _, rfl, ht1, fsT_no_remove_registration, _, rfl, _, rfl, t1, a, b, H, U, rfl, e1, F, ha, hb, fun H2 e2 F2 => ?_⟩
      refine ⟨_, rfl, _, rfl, _, rfl, _, rfl, t1, U.rem a b, a, b, pl, ps, rfl, e2.tab tb, F2.tab, ok.rem a b, ha, hbn, hp.mono e2, hz, fun v1 H3 e3 s1 => ?_⟩
      have e23 := e2.trans e3
      refine ⟨_, rfl, _, rfl, _, rfl, _, rfl, t, U, a, b, pl, ps, rfl, e23.tab tb, R.mono e23, ok, ha, hbn, hp.mono e23, hz, fun v2 H4 e4 s2 => ?_⟩
      exact state_eq (s1.mono e4) s2 fun r hr => k r H4 (e23.trans e4) hr
  exact ⟨⟨_, fd, G, T.g_is_needless_in, F.kp, F.bindsN (ps := ["table", "cls", "other", "patterns"]) fun _ _ _ _ _ _ us hl => match us, hl with | [_, _, _, _], _ => rfl⟩⟩

end
end Sw
set_option linter.all false
set_option maxRecDepth 100000
set_option maxHeartbeats 4000000
/-! SwF10: what is needless in a world, its kernel. Terms printed by gen_term.py. -/
namespace Sw
open PySem PySem.Spec PyProof.Rows L2 LamX
section
variable {P : Program} {w : World} {K : PySem.W.Frag} {mg : Str → Option Value} {base : Heap}


def fsW (t ca vi th ch : Addr) : List (Str × V) := [("table", .ref t), ("cache", .ref ca), ("visits", .ref vi), ("things", .ref th), ("choice_lists", .ref ch)]
structure WorldAt (H : Hp) (w : Addr) (U : Tb) : Prop where
  ex : ∃ dx t ca vi th ch, H w = some (.ins cWorld dx (fsW t ca vi th ch)) ∧ TabAt H t U
theorem WorldAt.mono {H H' : Hp} {w : Addr} {U : Tb} (e : Le H H') (h : WorldAt H w U) : WorldAt H' w U := by
  obtain ⟨dx, t, ca, vi, th, ch, h1, h2⟩ := h.ex
  exact ⟨dx, t, ca, vi, th, ch, e.at h1, h2.mono e⟩
section
variable {t ca vi th ch : Addr}
theorem fsW_table : (fsW t ca vi th ch).lookup ("table" : Str) = some (.ref t) := by kernel_rfl
theorem fsW_cache : (fsW t ca vi th ch).lookup ("cache" : Str) = some (.ref ca) := by kernel_rfl
theorem fsW_lists : (fsW t ca vi th ch).lookup ("choice_lists" : Str) = some (.ref ch) := by kernel_rfl
end
/-- the patterns' list fits the table -/
def PsOk (U : Tb) (ps : List (List Str)) : Prop := ∃ ms, (∀ m, m ∈ ms ↔ U.meth m) ∧ ps = patsOf ms
noncomputable def Tb.ndl (U : Tb) (ps : List (List Str)) (pr : Str × Str) : Bool := @decide (SameSt (U.rem pr.1 pr.2) U pr.1 pr.2 ps) (Classical.propDecidable _)
theorem Tb.ndl_iff {U : Tb} {ps : List (List Str)} {pr : Str × Str} : U.ndl ps pr = true ↔ SameSt (U.rem pr.1 pr.2) U pr.1 pr.2 ps := by unfold Tb.ndl; exact @decide_eq_true_iff _ (Classical.propDecidable _)
def spNeed : Sp := fun vs H Q _ => ∃ w U, vs = [.ref w] ∧ Tabs TBS H ∧ WorldAt H w U ∧ U.Ok ∧ ∀ p H' ps, Le H H' → PsOk U ps → RegsAt H' p (U.regs.filter (U.ndl ps)) → Q (.ref p) H'
def spKernel : Sp := fun vs H Q _ => ∃ w U, vs = [.ref w] ∧ Tabs TBS H ∧ WorldAt H w U ∧ U.Ok ∧ ∀ p H' ps, Le H H' → PsOk U ps → RegsAt H' p (U.regs.filter fun pr => !U.ndl ps pr) → Q (.ref p) H'
theorem got_filter {α : Type} {l : List α} {p : α → Bool} {R : α → V → Prop} {ys : List V} (d : α) (h : Paired (fun i y => ∃ m, l[i]? = some m ∧ R m y) ((List.range l.length).filter fun i => p (l.getD i d)) ys) : Paired R (l.filter p) ys := by
  have go : ∀ {is : List Nat} {ys : List V}, Paired (fun i y => ∃ m, l[i]? = some m ∧ R m y) is ys → ∀ ps : List α, is.map (fun i => l[i]?) = ps.map some → Paired R ps ys := by
    intro is ys h
    induction h with
    | nil =>
      intro l e
      cases l with
      | nil => exact .nil
      | cons a l => cases e
    | cons h t ih =>
      intro l e
      cases l with
      | nil => cases e
      | cons a l =>
        rw [List.map_cons, List.map_cons] at e
        obtain ⟨e1, e2⟩ := List.cons.inj e
        obtain ⟨m, h1, h2⟩ := h
        rw [h1] at e1
        cases e1
        exact .cons h2 (ih l e2)
  refine go h _ ?_
  rw [← filter_range l d p some]
  refine List.map_congr_left fun i hi => ?_
  have hi2 : i < l.length := List.mem_range.mp (List.mem_filter.mp hi).1
  rw [List.getD_eq_getElem?_getD, List.getElem?_eq_getElem hi2]
  rfl
theorem regs_mem {U : Tb} {pr : Str × Str} (h : pr ∈ U.regs) : pr.1 ∈ U.names ∧ pr.2 ∈ U.ls pr.1 := by
  obtain ⟨n, hn, h2⟩ := List.mem_flatMap.mp h
  obtain ⟨o, ho, rfl⟩ := List.mem_map.mp h2
  exact ⟨hn, ho⟩
theorem Tb.Ok.regs_len {U : Tb} (ok : U.Ok) : U.regs.length ≤ 2000 := by
  have h1 := flat_len (fun n => (U.ls n).map fun o => (n, o)) 100 U.names fun n hn => by
    rw [List.length_map]
    exact ok.rsz n hn
  have h3 := Nat.mul_le_mul_right 100 ok.sz
  unfold Tb.regs
  omega
/-- pairs as data -/
def dP (p : Str × Str) : PyData := .tuple [.str p.1, .str p.2]
theorem nm_ok {x : Str} (h : x ∈ Tb.NAMES) : PyData.strOk x = true := by
  have q : Tb.NAMES.all PyData.strOk = true := by decide +kernel
  exact List.all_eq_true.mp q x h
theorem dp_P {H : Hp} {v : V} {p : Str × Str} (h : PairAt H v p) : Dp K H v (dP p) := by
  obtain ⟨a, rfl, h⟩ := h
  exact .tup (SqT.of h) (.cons (.str _) (.cons (.str _) .nil))
theorem dpAll_P {H : Hp} : ∀ {ps : List (Str × Str)} {vs : List V}, Paired (fun p v => PairAt H v p) ps vs → DpAll K H vs (ps.map dP)
  | _, _, .nil => .nil
  | _, _, .cons h t => .cons (dp_P h) (dpAll_P t)
theorem eqv_P {p q : Str × Str} : PyData.eqv (dP p) (dP q) = decide (p = q) := by
  have e : PyData.eqv (dP p) (dP q) = ((p.1 == q.1) && ((p.2 == q.2) && true)) := rfl
  rw [e, Bool.and_true]
  obtain ⟨a, b⟩ := p
  obtain ⟨c, d⟩ := q
  show ((a == c) && (b == d)) = decide ((a, b) = (c, d))
  rw [Bool.eq_iff_iff, Bool.and_eq_true, beq_iff_eq, beq_iff_eq, decide_eq_true_eq, Prod.mk.injEq]
theorem lay_P {p : Str × Str} (h1 : p.1 ∈ Tb.NAMES) (h2 : p.2 ∈ Tb.NAMES) : PyData.canLay0 (dP p) = true ∧ PyData.depth (dP p) = 1 := by
  refine ⟨?_, rfl⟩
  show (PyData.strOk p.1 && (PyData.strOk p.2 && true)) = true
  rw [nm_ok h1, nm_ok h2]
  rfl
theorem layAll_P : ∀ {ps : List (Str × Str)}, (∀ p ∈ ps, p.1 ∈ Tb.NAMES ∧ p.2 ∈ Tb.NAMES) → PyData.canLayAll0 (ps.map dP) = true ∧ PyData.depthAll (ps.map dP) ≤ 1
  | [], _ => ⟨rfl, Nat.zero_le _⟩
  | p :: ps, h => by
    obtain ⟨h1, h2⟩ := layAll_P fun x hx => h x (List.mem_cons_of_mem _ hx)
    obtain ⟨q1, q2⟩ := lay_P (h p List.mem_cons_self).1 (h p List.mem_cons_self).2
    rw [List.map_cons]
    refine ⟨?_, ?_⟩
    · show (PyData.canLay0 (dP p) && PyData.canLayAll0 (ps.map dP)) = true
      rw [q1, h1]
      rfl
    · show max (PyData.depth (dP p)) (PyData.depthAll (ps.map dP)) ≤ 1
      rw [q2]
      omega
theorem shaped_P {p : Str × Str} (h1 : p.1 ∈ Tb.NAMES) (h2 : p.2 ∈ Tb.NAMES) : SeqAt.shaped (dP p) = true := by
  obtain ⟨a, b⟩ := lay_P h1 h2
  unfold SeqAt.shaped
  rw [a, b]
  rfl
theorem shaped_Ps {ps : List (Str × Str)} (h : ∀ p ∈ ps, p.1 ∈ Tb.NAMES ∧ p.2 ∈ Tb.NAMES) : SeqAt.shaped (.list (ps.map dP)) = true := by
  obtain ⟨a, b⟩ := layAll_P h
  unfold SeqAt.shaped
  rw [show PyData.canLay0 (.list (ps.map dP)) = PyData.canLayAll0 (ps.map dP) from rfl, a, Bool.true_and, decide_eq_true_eq]
  show PyData.depthAll (ps.map dP) + 1 ≤ 64
  omega
theorem any_P {ps : List (Str × Str)} {q : Str × Str} : (ps.map dP).any (fun z => PyData.eqv z (dP q)) = ps.contains q := by
  rw [List.any_map]
  induction ps with
  | nil => rfl
  | cons p ps ih =>
    rw [List.any_cons, List.contains_cons, ih]
    congr 1
    show PyData.eqv (dP p) (dP q) = _
    rw [eqv_P, Bool.eq_iff_iff, decide_eq_true_eq, beq_iff_eq]
    exact eq_comm
theorem Tb.Ok.regs_nm {U : Tb} (ok : U.Ok) {pr : Str × Str} (h : pr ∈ U.regs) : pr.1 ∈ Tb.NAMES ∧ pr.2 ∈ Tb.NAMES := by
  obtain ⟨h1, h2⟩ := regs_mem h
  exact ⟨ok.nms _ h1, ok.nms _ (ok.reg _ h1 _ h2)⟩
theorem filter_not {α : Type} [BEq α] [LawfulBEq α] (l : List α) (p : α → Bool) : l.filter (fun x => !(l.filter p).contains x) = l.filter fun x => !p x := by
  refine List.filter_congr fun x hx => ?_
  congr 1
  rw [Bool.eq_iff_iff, List.contains_iff_mem, List.mem_filter]
  exact ⟨fun h => h.2, fun h => ⟨hx, h⟩⟩

theorem sc_needless : FnScope ["world", "table", "patterns", "pair"] ["world"] (defScope s_needless) := ⟨rfl, rfl, rfl, by decide +kernel, rfl, by decide +kernel, by decide +kernel⟩
theorem ok_needless (T : Tx K mg) (c_patterns_in : Cal P w K mg base "patterns_in" 3 ["table"] spPats) (c_Table_registrations : CalM P w K mg base cTable "registrations" 1 ["self"] spTRegs) (c_is_needless_in : Cal P w K mg base "is_needless_in" 10 ["table", "cls", "other", "patterns"] spNeedIn) : Cal P w K mg base "needless" 11 ["world"] spNeed := by
  obtain ⟨fd, F⟩ := T.fn _ fi_needless
  have G : FnOk P w K mg base CX0 11 d_needless.f fd ["world"] spNeed := by
    refine F.ok sc_needless (fun vs H Q E h => ?_) (fun cdv A outer s H vs Q E hr h => ⟨_, PSs.nox (X := cxOf CX0 P w K mg base _ _ _ _ cdv A outer s H E) ((pss_cons (ps_set (i := 1) sc_needless.nd rfl (Or.inr rfl) (wfld K (pv 0) rfl))
    (pss_cons (ps_set (i := 2) sc_needless.nd rfl (Or.inr rfl) (pc c_patterns_in (hr.mono (by decide : 3 ≤ _)) rfl (pa_cons (pv 1) pa_nil)))
    (pss_one (ps_ret (pe_lc (own := [("pair", 3)]) rfl sc_needless.nd (wlist K (pm0 c_Table_registrations (hr.mono (by decide : 1 ≤ _)) (pv 1))) (blkOk_by (N := ["world", "table", "patterns", "pair"]) (sc := defScope s_needless) (own := [("pair", 3)]) (by decide +kernel)) (fun _ _ _ _ _ => (pg_name (i := 3) sc_needless.nd rfl (Or.inl rfl))) (fun _ _ _ _ _ => (pts_one (pt_val (pcS c_is_needless_in hr rfl (pa_cons (pv 1) (wstar K (pv 3) (pa_cons (pv 2) pa_nil))))))) (fun _ _ _ _ _ => (pv 3)))))))), ?_⟩)
    · obtain ⟨_, _, rfl, _⟩ := h
      rfl
    · obtain ⟨w, U, rfl, tb, ⟨dxw, t, ca, vi, th, ch, hw, R⟩, ok, k⟩ := h
      obtain ⟨dx, r, nb, ll, mk, ht⟩ := R.ins
      refine ⟨_, rfl, _, cWorld, dxw, _, _, rfl, hw, T.cl_World, T.n_World_table, fsW_table, _, rfl, t, U, rfl, R, ok, fun pl H1 ms e1 hps hpz hms => ?_⟩
      show gName 2 _ _ _ _
      refine ⟨_, rfl, t, dx, _, rfl, e1.at ht, fsT_no_registrations, t, U, rfl, R.mono e1, ok, fun q H2 e2 hrg => ?_⟩
      obtain ⟨rs, hq, hrs⟩ := hrg
      refine ⟨q, rfl, ⟨_, SqL.of hq⟩, fun D hD => ?_⟩
      have hlen := Paired.length hrs
      have hrl := ok.regs_len
      have w1 := walk_list (K := K) (a := q) (xs := rs)
      have e12 := e1.trans e2
      refine lc_go w1 (fun D i y H' => ∃ pr, U.regs[i]? = some pr ∧ ∃ a, y = .ref a ∧ a ≠ D ∧ H' a = some (.tup [.str pr.1, .str pr.2])) (fun i => U.ndl (patsOf ms) (U.regs.getD i (Str.empty, Str.empty))) (by omega) hD (fun i H x H' y => by rw [y.1]; exact Le.refl _) (fun H' e => SqL.of (e.at hq)) ?_ ?_ ?_
      · rintro j y Hc Hd eX ⟨p, h1, a, h2, h3, h4⟩
        exact ⟨p, h1, a, h2, h3, eX.at h3 h4⟩
      · rintro j x Hc Hd hj e1' e2' ⟨rfl, hx⟩ ⟨ys, hys⟩ QF QT h1 h2
        have hjp : j < U.regs.length := by omega
        obtain ⟨b, hb, a, rfl, ha⟩ := Paired.at hrs (List.getElem?_eq_getElem hjp)
        rw [hx] at hb
        cases hb
        have hgd : U.regs.getD j (Str.empty, Str.empty) = U.regs[j] := by rw [List.getD_eq_getElem?_getD, List.getElem?_eq_getElem hjp]; rfl
        rw [hgd] at h1 h2
        obtain ⟨m1, m2⟩ := regs_mem (List.getElem_mem hjp)
        have e13 := e12.trans e2'
        refine ⟨rfl, _, rfl, _, rfl, a, _, rfl, .inl (SqT.of (e2'.at ha)), _, rfl, t, U, _, _, pl, patsOf ms, rfl, e13.tab tb, R.mono e13, ok, m1, m2, (hps.mono e2).mono e2', hpz, fun r H3 e3 hr3 => ⟨r, rfl, ?_⟩⟩
        cases r with
        | false => exact iteF (h1 H3 e3 (Bool.eq_false_iff.mpr fun z => by have := hr3.2 (Tb.ndl_iff.1 z); cases this))
        | true => exact iteT ⟨_, rfl, h2 _ H3 e3 (Tb.ndl_iff.2 (hr3.1 rfl)) ⟨_, List.getElem?_eq_getElem hjp, a, rfl, fun z => (by rw [z] at ha; rw [e2'.at ha] at hys; cases hys), e3.at (e2'.at ha)⟩⟩
      · rintro ys H3 e3 hD3 hg
        refine k D H3 (patsOf ms) (e12.trans e3) ⟨ms, hms, rfl⟩ ⟨ys, hD3, ?_⟩
        have q2 := hg
        unfold Got at q2
        rw [← hlen] at q2
        exact got_filter (p := U.ndl (patsOf ms)) (R := fun p v => PairAt H3 v p) (Str.empty, Str.empty) (Paired.mapP q2 fun i y ⟨pr, g1, a, g2, g3, g4⟩ => ⟨pr, g1, a, g2, g4⟩)
  exact ⟨⟨_, fd, G, T.g_needless, F.kp, F.bindsN (ps := ["world"]) fun _ _ _ _ _ _ us hl => match us, hl with | [_], _ => rfl⟩⟩

theorem sc_kernel : FnScope ["world", "left", "pair"] ["world"] (defScope s_kernel) := ⟨rfl, rfl, rfl, by decide +kernel, rfl, by decide +kernel, by decide +kernel⟩
theorem ok_kernel (T : Tx K mg) (c_needless : Cal P w K mg base "needless" 11 ["world"] spNeed) (c_Table_registrations : CalM P w K mg base cTable "registrations" 1 ["self"] spTRegs) : Cal P w K mg base "kernel" 12 ["world"] spKernel := by
  obtain ⟨fd, F⟩ := T.fn _ fi_kernel
  have G : FnOk P w K mg base CX0 12 d_kernel.f fd ["world"] spKernel := by
    refine F.ok sc_kernel (fun vs H Q E h => ?_) (fun cdv A outer s H vs Q E hr h => ⟨_, PSs.nox (X := cxOf CX0 P w K mg base _ _ _ _ cdv A outer s H E) ((pss_cons (ps_set (i := 1) sc_kernel.nd rfl (Or.inr rfl) (pc c_needless hr rfl (pa_cons (pv 0) pa_nil)))
    (pss_one (ps_ret (pe_lc (own := [("pair", 2)]) rfl sc_kernel.nd (wlist K (pm0 c_Table_registrations (hr.mono (by decide : 1 ≤ _)) (wfld K (pv 0) rfl))) (blkOk_by (N := ["world", "left", "pair"]) (sc := defScope s_kernel) (own := [("pair", 2)]) (by decide +kernel)) (fun _ _ _ _ _ => (pg_name (i := 2) sc_kernel.nd rfl (Or.inl rfl))) (fun _ _ _ _ _ => (pts_one (pt_cmpR (wninD K (hd_of hr)) (pv 2) (pv 1) rfl))) (fun _ _ _ _ _ => (pv 2))))))), ?_⟩)
    · obtain ⟨_, _, rfl, _⟩ := h
      rfl
    · obtain ⟨w, U, rfl, tb, W, ok, k⟩ := h
      refine ⟨_, rfl, w, U, rfl, tb, W, ok, fun lp H1 ps e1 hps hl => ?_⟩
      obtain ⟨dxw, t, ca, vi, th, ch, hw, R⟩ := W.ex
      obtain ⟨dx, r, nb, ll, mk, ht⟩ := R.ins
      show gName 1 _ _ _ _
      refine ⟨_, rfl, _, cWorld, dxw, _, _, rfl, e1.at hw, T.cl_World, T.n_World_table, fsW_table, t, dx, _, rfl, e1.at ht, fsT_no_registrations, t, U, rfl, R.mono e1, ok, fun q H2 e2 hrg => ?_⟩
      obtain ⟨rs, hq, hrs⟩ := hrg
      refine ⟨q, rfl, ⟨_, SqL.of hq⟩, fun D hD => ?_⟩
      have hlen := Paired.length hrs
      have hrl := ok.regs_len
      have w1 := walk_list (K := K) (a := q) (xs := rs)
      have e12 := e1.trans e2
      refine lc_go w1 (fun D i y H' => ∃ pr, U.regs[i]? = some pr ∧ ∃ a, y = .ref a ∧ a ≠ D ∧ H' a = some (.tup [.str pr.1, .str pr.2])) (fun i => (fun pr => !(U.regs.filter (U.ndl ps)).contains pr) (U.regs.getD i (Str.empty, Str.empty))) (by omega) hD (fun i H x H' y => by rw [y.1]; exact Le.refl _) (fun H' e => SqL.of (e.at hq)) ?_ ?_ ?_
      · rintro j y Hc Hd eX ⟨p, h1, a, h2, h3, h4⟩
        exact ⟨p, h1, a, h2, h3, eX.at h3 h4⟩
      · rintro j x Hc Hd hj e1' e2' ⟨rfl, hx⟩ ⟨ys, hys⟩ QF QT h1 h2
        have hjp : j < U.regs.length := by omega
        obtain ⟨b, hb, a, rfl, ha⟩ := Paired.at hrs (List.getElem?_eq_getElem hjp)
        rw [hx] at hb
        cases hb
        have hgd : U.regs.getD j (Str.empty, Str.empty) = U.regs[j] := by rw [List.getD_eq_getElem?_getD, List.getElem?_eq_getElem hjp]; rfl
        rw [hgd] at h1 h2
        obtain ⟨m1, m2⟩ := ok.regs_nm (List.getElem_mem hjp)
        have ha2 := e2'.at ha
        obtain ⟨ls, hlp, hlr⟩ := (hl.mono e2).mono e2'
        refine ⟨rfl, _, rfl, _, rfl, dP U.regs[j], (U.regs.filter (U.ndl ps)).map dP, dp_P ⟨a, rfl, ha2⟩, .lst (SqL.of hlp) (dpAll_P hlr), shaped_P m1 m2, shaped_Ps fun p hp => ok.regs_nm (List.mem_filter.mp hp).1, ?_⟩
        rw [any_P]
        refine ⟨_, rfl, ?_⟩
        cases hc : (U.regs.filter (U.ndl ps)).contains U.regs[j] with
        | true => exact iteF (h1 Hd (Le.refl _) (congrArg (!·) hc))
        | false => exact iteT ⟨_, rfl, h2 _ Hd (Le.refl _) (congrArg (!·) hc) ⟨_, List.getElem?_eq_getElem hjp, a, rfl, fun z => (by rw [z] at ha2; rw [ha2] at hys; cases hys), ha2⟩⟩
      · rintro ys H3 e3 hD3 hg
        refine k D H3 ps (e12.trans e3) hps ⟨ys, hD3, ?_⟩
        have q2 := hg
        unfold Got at q2
        rw [← hlen] at q2
        have q3 := got_filter (p := fun pr => !(U.regs.filter (U.ndl ps)).contains pr) (R := fun p v => PairAt H3 v p) (Str.empty, Str.empty) (Paired.mapP q2 fun i y ⟨pr, g1, a, g2, g3, g4⟩ => ⟨pr, g1, a, g2, g4⟩)
        rw [filter_not] at q3
        exact q3
  exact ⟨⟨_, fd, G, T.g_kernel, F.kp, F.bindsN (ps := ["world"]) fun _ _ _ _ _ _ us hl => match us, hl with | [_], _ => rfl⟩⟩

end
end Sw
set_option linter.all false
set_option maxRecDepth 100000
set_option maxHeartbeats 4000000
/-! Sets of texts that can be walked: add, sorted. -/
namespace SwS
open PySem PySem.Spec PyProof.Rows L2
abbrev skd (P : Program) (w : World) := PySem.strKind P w
def txtOf (e : Int × Value) : Str := match e.2 with | .str z _ => z | _ => Str.empty
def GoodT (P : Program) (w : World) (e : Int × Value) : Prop := ∃ z tk, e.2 = Value.str z tk ∧ e.1 = (skd P w).hash z
/-- the set of texts at a: S its members, n their number -/
def SetT (P : Program) (w : World) (h : Heap) (a : Addr) (S : Str → Bool) (n : Nat) : Prop :=
  ∃ o es ep t, h.get? a = some o ∧ o.ExactSet ∧ o.data = .set es ep t ∧ (∀ e ∈ es.toList, GoodT P w e) ∧ (es.toList.map txtOf).Nodup ∧ (∀ k, S k = true ↔ k ∈ es.toList.map txtOf) ∧
    es.size < scanBound ∧ t.fits es.size = true ∧ es.size = n ∧ Ris t.place.toList ∧ (w.params.followText "set-order" = true ∨ t.led = true)
section
variable {P : Program} {w : World} {h h' : Heap} {a : Addr} {S : Str → Bool} {n : Nat}
theorem SetT.at (R : SetT P w h a S n) (k : ∀ o, h.get? a = some o → h'.get? a = some o) : SetT P w h' a S n := by
  obtain ⟨o, es, ep, t, ho, r⟩ := R
  exact ⟨o, es, ep, t, k o ho, r⟩
theorem SetT.congr {S' : Str → Bool} (R : SetT P w h a S n) (e : ∀ k, S' k = S k) : SetT P w h a S' n := by
  rw [show S' = S from funext e]; exact R
theorem goodT_elems {l : List (Int × Value)} (g : ∀ e ∈ l, GoodT P w e) : ElemsOf (skd P w) l := fun e he => by
  obtain ⟨k, tk, h1, h2⟩ := g e he
  exact ⟨⟨k, by rw [h1]; exact strKind_is _ _ k tk, h2⟩, by rw [h1] <;> rfl⟩
theorem goodT_is {e : Int × Value} (g : GoodT P w e) (k : Str) : (skd P w).is k e.2 = true ↔ txtOf e = k := by
  obtain ⟨k0, tk, h1, _⟩ := g
  have e1 : txtOf e = k0 := by unfold txtOf; rw [h1]
  rw [e1, h1]
  constructor
  · exact fun z => (skd P w).inj _ _ _ (strKind_is _ _ k0 tk) z
  · intro z; rw [← z]; exact strKind_is _ _ k0 tk
theorem goodT_mem {l : List (Int × Value)} (g : ∀ e ∈ l, GoodT P w e) (k : Str) : k ∈ l.map txtOf ↔ ∃ e ∈ l, (skd P w).is k e.2 = true := by
  rw [List.mem_map]
  exact ⟨fun ⟨e, he, q⟩ => ⟨e, he, (goodT_is (g e he) k).2 q⟩, fun ⟨e, he, q⟩ => ⟨e, he, (goodT_is (g e he) k).1 q⟩⟩
theorem SetT.setOf (R : SetT P w h a S n) : h.SetOf (skd P w) a S n := by
  obtain ⟨o, es, ep, t, ho, hx, hd, g, nd, hm, hb, hf, hn, _⟩ := R
  exact ⟨o, es, ep, t, ho, hx, hd, goodT_elems g, fun k => (hm k).trans (goodT_mem g k), hb, hf, hn⟩
end
section
variable {P : Program} {w : World} {A : Around} {E : Value → Shared → Prop} {s : Shared} {a : Addr} {S : Str → Bool} {n : Nat}
theorem storeT_at {h : Heap} {a : Addr} {o : Obj} {es es' : Array (Int × Value)} {ep : Nat} {t t' : SetTable} (ho : h.get? a = some o) (hd : o.data = .set es ep t) :
    (h.update a (Obj.putSet es' t')).get? a = some { o with data := .set es' (ep + 1) t' } := by
  have q := Heap.get?_update_self (Obj.putSet es' t') ho (by rw [putSet_of es' t' hd]; rfl)
  rw [putSet_of es' t' hd] at q
  exact q
theorem addT_tail {g : Bool → Sem Unit} (hg : ∀ (b : Bool) (s₁ : Shared) (Q' : Unit → Shared → Prop), Q' () s₁ → wpAny (model P w) A (g b) Q' E s₁)
    {o : Obj} {es : Array (Int × Value)} {ep : Nat} {t : SetTable} (ho : s.heap.get? a = some o) (hex : o.ExactSet) (hd : o.data = .set es ep t)
    {es1 : Array (Int × Value)} {t2 : SetTable} {S' : Str → Bool} (g1 : ∀ e ∈ es1.toList, GoodT P w e) (nd1 : (es1.toList.map txtOf).Nodup) (m1 : ∀ k, S' k = true ↔ k ∈ es1.toList.map txtOf)
    (hb1 : es1.size < scanBound) (hf2 : t2.fits es1.size = true) (hr : Ris t2.place.toList) (hl : w.params.followText "set-order" = true ∨ t2.led = true) {wasDummy : Bool} {R : Option Bool → Shared → Prop}
    (hR : ∀ h', Heap.SameBut a s.heap h' → SetT P w h' a S' es1.size → R (some true) { s with heap := h' }) :
    wpAny (model P w) A (do
        storeSet a es1 t2
        if (!wasDummy && t2.tooFull) = true then do
            g (relayAll t2 es1 (SetTable.grown es1.size)).2.2
            storeSet a (relayAll t2 es1 (SetTable.grown es1.size)).1 (relayAll t2 es1 (SetTable.grown es1.size)).2.1
            pure (some true)
          else pure (some true)) R E s := by
  refine wpAny_bind (wpAny_storeSet_of ho hd ?_ (fits_of_scanBound hb1))
  have ho1 := storeT_at (es' := es1) (t' := t2) ho hd
  have sb1 := Heap.SameBut.update s.heap a (Obj.putSet es1 t2)
  split
  · have pm := relayAll_perm t2 es1 (SetTable.grown es1.size)
    have hf3 := relayAll_fits t2 es1 (SetTable.grown es1.size)
    have hr3 := relayAll_ris t2 es1 (SetTable.grown es1.size)
    have hl3 := relayAll_led t2 es1 (SetTable.grown es1.size)
    generalize relayAll t2 es1 (SetTable.grown es1.size) = Z at pm hf3 hr3 hl3 ⊢
    obtain ⟨es2, t3, gave⟩ := Z
    dsimp only at pm hf3 hr3 hl3 ⊢
    have hsz : es2.size = es1.size := by rw [← Array.length_toList, pm.length_eq, Array.length_toList]
    have hb2 : es2.size < scanBound := by rw [hsz]; exact hb1
    refine wpAny_bind (hg _ _ _ (wpAny_bind (wpAny_storeSet_of ho1 rfl ?_ (fits_of_scanBound hb2))))
    have ho2 := storeT_at (es' := es2) (t' := t3) ho1 rfl
    refine wpAny_pure (hR _ (sb1.trans (Heap.SameBut.update _ a _)) ?_)
    exact ⟨_, es2, _, t3, ho2, hex, rfl, fun e he => g1 e (pm.mem_iff.mp he), (pm.map txtOf).nodup_iff.mpr nd1, fun k => (m1 k).trans (pm.map txtOf).mem_iff.symm, hb2, hf3, hsz, hr3,
      hl.imp id fun z => by rw [hl3]; exact z⟩
  · exact wpAny_pure (hR _ sb1 ⟨_, es1, _, t2, ho1, hex, rfl, g1, nd1, m1, hb1, hf2, rfl, hr, hl⟩)
theorem addT_hashed {k : Str} {tk : Tok} {Q : Bool → Shared → Prop} (R : SetT P w s.heap a S n) (room : n + 1 < scanBound)
    (hQ : ∀ h', Heap.SameBut a s.heap h' → SetT P w h' a (fun j => S j || decide (j = k)) (if S k = true then n else n + 1) → Q (!S k) { s with heap := h' }) :
    wpAny (model P w) A (setAddHashed a (.str k tk) ((skd P w).hash k)) Q E s := by
  obtain ⟨o, es, ep, t, ho, hex, hd, g, nd, hm, hb, hf, hn, hr, hl⟩ := R
  have hkey : (skd P w).is k (.str k tk) = true := strKind_is _ _ k tk
  have hsc : (Value.str k tk).scannable = true := rfl
  have hel : ElemsOf (skd P w) es.toList := goodT_elems g
  have quiet : ∀ {f : Bool → Sem Unit}, (∀ b, f b = match b with | true => rule "set.scan.the-table-gave-way" | false => pure ()) → ∀ (b : Bool) (s₁ : Shared) (Q' : Unit → Shared → Prop), Q' () s₁ → wpAny (model P w) A (f b) Q' E s₁ :=
    fun hf b s₁ Q' q => by rw [hf]; cases b <;> first | exact wpAny_pure q | exact wpAny_rule q
  unfold setAddHashed setAddHashedIn
  refine wpAny_holding (wpAny_bind (wpAny_setState_of ho hd hf ?_))
  dsimp only
  rw [byScan_of hsc hb hel]
  simp only [↓reduceIte]
  unfold setAddByScan
  refine wpAny_bind (wpAny_bind (wpAny_rule (wpAny_bind (wpAny_setScan_of hkey ho hd hf hel ?_))))
  cases hfi : List.findIdx? (fun e => (skd P w).is k e.2) es.toList with
  | some j =>
    dsimp only
    obtain ⟨hj, pj, _⟩ := List.findIdx?_eq_some_iff_getElem.mp hfi
    have hSk : S k = true := (hm k).2 ((goodT_mem g k).2 ⟨es.toList[j], List.getElem_mem hj, pj⟩)
    refine wpAny_pure (wpAny_pure ?_)
    have q := hQ s.heap (Heap.SameBut.refl a s.heap) ⟨o, es, ep, t, ho, hex, hd, g, nd, fun i => by
      rw [Bool.or_eq_true, decide_eq_true_eq, ← hm i]
      exact ⟨fun z => z.elim id (fun e => e ▸ hSk), .inl⟩, hb, hf, by rw [if_pos hSk]; exact hn, hr, hl⟩
    rw [hSk] at q
    exact q
  | none =>
    dsimp only
    have hnk : k ∉ es.toList.map txtOf := fun z => by
      obtain ⟨e, he, q⟩ := (goodT_mem (P := P) (w := w) g k).1 z
      have c := List.findIdx?_eq_none_iff.mp hfi e he
      rw [q] at c
      cases c
    have hSk : S k = false := Bool.eq_false_iff.mpr fun q => hnk ((hm k).1 q)
    have pm := layNew_perm t es ((skd P w).hash k) (.str k tk)
    have hf1 := layNew_fits t es ((skd P w).hash k) (.str k tk)
    have hr1 := layNew_ris t es ((skd P w).hash k) (.str k tk) hr
    have hl1 := layNew_led t es ((skd P w).hash k) (.str k tk)
    generalize layNew t es ((skd P w).hash k) (.str k tk) = Z at pm hf1 hr1 hl1 ⊢
    obtain ⟨es1, t1, wasDummy, gave⟩ := Z
    dsimp only at pm hf1 hr1 hl1 ⊢
    rw [Array.toList_push] at pm
    have pc : es1.toList.Perm (((skd P w).hash k, Value.str k tk) :: es.toList) := pm.trans (List.perm_append_singleton _ _)
    have pk : (es1.toList.map txtOf).Perm (k :: es.toList.map txtOf) := pc.map txtOf
    have g1 : ∀ e ∈ es1.toList, GoodT P w e := fun e he => by
      rcases List.mem_cons.mp (pc.mem_iff.mp he) with z | z
      · rw [z]; exact ⟨k, tk, rfl, rfl⟩
      · exact g e z
    have nd1 : (es1.toList.map txtOf).Nodup := pk.nodup_iff.mpr (List.nodup_cons.mpr ⟨hnk, nd⟩)
    have m1 : ∀ i, (S i || decide (i = k)) = true ↔ i ∈ es1.toList.map txtOf := fun i => by
      rw [Bool.or_eq_true, decide_eq_true_eq, hm i, pk.mem_iff, List.mem_cons]
      exact Or.comm
    have hsz : es1.size = n + 1 := by rw [← Array.length_toList, pc.length_eq, List.length_cons, Array.length_toList, hn]
    have hb1 : es1.size < scanBound := by rw [hsz]; exact room
    have hled : w.params.followText "set-order" = true ∨ t1.led = true := hl.imp id fun z => by rw [hl1]; exact z
    have fin : ∀ h', Heap.SameBut a s.heap h' → SetT P w h' a (fun j => S j || decide (j = k)) es1.size → Q true { s with heap := h' } := fun h' sb r => by
      have q := hQ h' sb
      rw [hSk] at q
      rw [hsz] at r
      exact q r
    refine wpAny_bind (quiet (fun _ => rfl) _ _ _ ?_)
    split
    · refine wpAny_bind ?_
      rw [hashByValue_scannable 8 hsc]
      refine wpAny_pure (addT_tail (quiet fun _ => rfl) ho hex hd g1 nd1 m1 hb1 ?_ ?_ ?_ fun h' sb r => ?_)
      · first | (split <;> first | exact hf1 | exact SetTable.fits_plain_off hf1) | exact hf1
      · first | (split <;> exact hr1) | exact hr1
      · first | (split <;> exact hled) | exact hled
      · dsimp only; exact wpAny_pure (fin h' sb r)
    · refine wpAny_bind (wpAny_pure ?_)
      simp only [↓reduceIte]
      refine addT_tail (quiet fun _ => rfl) ho hex hd g1 nd1 m1 hb1 hf1 hr1 hled fun h' sb r => ?_
      dsimp only; exact wpAny_pure (fin h' sb r)
/-- found.add(k) -/
theorem setT_add {k : Str} {tk : Tok} {Q : Value → Shared → Prop} (R : SetT P w s.heap a S n) (room : n + 1 < scanBound)
    (hQ : ∀ h', Heap.SameBut a s.heap h' → SetT P w h' a (fun j => S j || decide (j = k)) (if S k = true then n else n + 1) → Q .none { s with heap := h', toks := s.toks + 1 }) :
    wpAny (model P w) A (call (.builtin "set.add") [.ref a, .str k tk]) Q E s := by
  have hS : s.heap.SetOf (skd P w) a S n := R.setOf
  refine wpAny_call_entry F.slot_set_add hS.typeIs F.entry_set_add ?_ (F.args_set_add_2 _ _)
  unfold Builtin.«set.add» Builtin.Frozenset.oneOther
  simp only [List.isEmpty_nil, bind_assoc]
  unfold Builtin.Frozenset.addrOf setAdd
  refine wpAny_bind (wpAny_pure ?_)
  try dsimp only
  refine wpAny_bind (wpAny_pure ?_)
  try dsimp only
  refine wpAny_bind (wpAny_holding (wpAny_bind ((skd P w).pyHash (strKind_is _ _ k tk) ?_)))
  refine addT_hashed (s := { s with toks := s.toks + 1 }) R room fun h' sb r => ?_
  show wpAny _ _ (ret Value.none) _ _ _
  exact wpAny_pure ⟨_, rfl, hQ h' sb r⟩
end
section
variable {P : Program} {w : World} {A : Around} {E : Value → Shared → Prop} {s : Shared}
theorem setT_fresh {h : Heap} (P : Program) (w : World) : SetT P w (h.push { cls := .type "set", dict := none, data := .set #[] 0 (.fresh 0 0 (!w.params.followText "set-order")) }) h.objs.size (fun _ => false) 0 :=
  ⟨_, #[], 0, _, Heap.get?_push_size _ rfl, ⟨rfl, rfl, rfl⟩, rfl, (fun e he => by simp at he), (by simp), (fun k => by simp), (by decide), (by rfl), rfl, List.Pairwise.nil, by
    show _ ∨ (!w.params.followText "set-order") = true
    cases w.params.followText "set-order"
    · exact .inr rfl
    · exact .inl rfl⟩
theorem strs_vals : ∀ (l : List Value), (∀ v ∈ l, ∃ z tk, v = Value.str z tk) → ∃ zs, StrsAre l zs ∧ zs = l.map fun v => txtOf (0, v)
  | [], _ => ⟨[], .nil, rfl⟩
  | v :: l, h => by
    obtain ⟨z, tk, rfl⟩ := h v List.mem_cons_self
    obtain ⟨zs, h1, h2⟩ := strs_vals l fun u hu => h u (List.mem_cons_of_mem _ hu)
    exact ⟨z :: zs, .cons z tk h1, by rw [List.map_cons, h2]; rfl⟩
theorem sorted_setT {a : Addr} {S : Str → Bool} {n : Nat} {Q : Value → Shared → Prop} (R : SetT P w s.heap a S n) (hh : A.handled = none) (h64 : n < 64)
    (hQ : ∀ s' p (out : Array Value) (c : Nat) (zs : List Str), (∀ b o, s.heap.get? b = some o → s'.heap.get? b = some o) → s'.gens = s.gens → s'.os = s.os → s.heap.objs.size ≤ p →
      s'.heap.get? p = some (seqObj "list" out c) → StrsAre out.toList zs → zs.Nodup → (∀ k, k ∈ zs ↔ S k = true) → zs.length = n → Q (.ref p) s') :
    wpAny (model P w) A (call (.builtin "sorted") [.ref a]) Q E s := by
  obtain ⟨o, es, ep, t, ho, hex, hd, g, nd, hm, hb, hf, hn, hr, hl⟩ := R
  refine Calls.call_function_entry kind_sorted plain_sorted entry_sorted (args_sorted1 _) ?_
  unfold Builtin.«sorted»
  refine wpAny_bind (m := checkCount "sorted" 1 1 _) (wpAny_pure (wpAny_bind (collect_set (A := A.in1) hh ⟨o, ho, hex.1, hd⟩ hf hb hr hl fun s1 vs k1 hz g1 o1 pm => ?_)))
  have hvl : vs.length = n := by rw [pm.length_eq, List.length_map, Array.length_toList]; exact hn
  obtain ⟨zs, hI, ez⟩ := strs_vals vs fun v hv => by
    obtain ⟨e, he, q⟩ := List.mem_map.mp (pm.mem_iff.mp hv)
    obtain ⟨k, tk, h1, _⟩ := g e he
    exact ⟨k, tk, by rw [← q]; exact h1⟩
  have pk : zs.Perm (es.toList.map txtOf) := by
    have q := pm.map fun v => txtOf (0, v)
    rw [List.map_map] at q
    rw [ez]
    exact q
  refine wpAny_bind (wpAny_newList ?_ (by rw [hvl, sizeLine_eq]; omega))
  have hoL : (s1.heap.push (seqObj "list" vs.toArray 0)).get? s1.heap.objs.size = some (seqObj "list" vs.toArray 0) := Heap.get?_push_size _ rfl
  refine wpAny_bind (wpAny_holding (wpAny_call_entry slot_list_sort ⟨_, hoL, rfl⟩ entry_list_sort (list_sort_treeK PyProof.Rows.strKind_oneLt hoL hI.keysOf (fun v₁ v₂ rest e => keyKind_strs (by rw [← e]; exact hI)) (by rw [hvl]; exact h64) fun st' hp hs => ⟨_, rfl, ?_⟩) (args_list_sort _)))
  obtain ⟨zs', a1, a2, a3⟩ := sorted_out_str hI hp hs
  obtain ⟨c, hc⟩ := sortedHeap_at (vs := vs) (out := (arrOf st').map (·.2)) hoL
  have pn : zs'.Perm (es.toList.map txtOf) := a2.trans pk
  refine wpAny_pure ⟨_, rfl, hQ _ s1.heap.objs.size _ c zs' (fun b u e => ?_) g1 o1 hz hc a1 (pn.nodup_iff.mpr nd) (fun k => by rw [pn.mem_iff, ← hm k]) ?_⟩
  · have q := k1 b u e
    have hlt := Heap.lt_size q
    show (sortedHeap (s1.heap.push (seqObj "list" vs.toArray 0)) s1.heap.objs.size vs _).get? b = some u
    rw [sortedHeap_old (Nat.ne_of_lt hlt) (by rw [size_push']; exact Nat.lt_succ_of_lt hlt)]
    exact Heap.get?_push_of_some _ q
  · rw [pn.length_eq, List.length_map, Array.length_toList]; exact hn
end
/-! ### as tracked things -/
def SetTO (P : Program) (w : World) (a : Addr) (S : Str → Bool) (n : Nat) : HO := .ext fun h => SetT P w h a S n
theorem setTO_new {w : World} {P : Program} {H : Hp} {h : Heap} {a : Addr} {S : Str → Bool} {n : Nat} (R : SetT P w h a S n) : ObjOk P w H h a (SetTO P w a S n) := by
  have ⟨o, _, _, _, ho, _⟩ := R
  exact ⟨R, ⟨o, ho⟩, fun h1 h2 p k => SetT.at p k⟩
section
variable {X : Cx}
theorem setTO_get {pins : List (Addr × Obj)} {σ : L2.St} {H : Hp} {s : Shared} {a : Addr} {S : Str → Bool} {n : Nat} (I : Inv X pins σ H s) (ha : H a = some (SetTO X.prog X.w a S n)) : SetT X.prog X.w s.heap a S n := (I.hok a _ ha).1
theorem addT_ok {pins : List (Addr × Obj)} {σ : L2.St} {H : Hp} {s : Shared} {E : Value → Shared → Prop} {D : Addr} {S : Str → Bool} {n : Nat} {y : Str} {tk : Tok} {Q : Value → Shared → Prop} (I : Inv X pins σ H s) (hD : H D = some (SetTO X.prog X.w D S n)) (room : n + 1 < scanBound)
    (h : ∀ s', Inv X pins σ (upd H D (SetTO X.prog X.w D (fun j => S j || decide (j = y)) (if S y = true then n else n + 1))) s' → Q .none s') : wpAny (model X.prog X.w) X.A (call (.builtin "set.add") [.ref D, .str y tk]) Q E s := by
  refine setT_add (setTO_get I hD) room fun h' sb new => ?_
  have he : ∃ u, h'.get? D = some u := by
    have ⟨o, _, _, _, ho, _⟩ := new
    exact ⟨o, ho⟩
  exact h _ (I.write (e := D) (t' := s.toks + 1) (by rw [hD]; trivial) (.inl rfl) (fun b u hb hu => (sb.2 b hb).trans hu) he (setTO_new new))
/-- sorted(found) -/
def rSortT (P : Program) (w : World) : List V → Hp → VK → Prop := fun vs H Q => ∃ (a : Addr) (S : Str → Bool) (n : Nat), vs = [V.ref a] ∧ H a = some (SetTO P w a S n) ∧ n < 64 ∧
  ∀ (zs : List Str) (p : Addr), zs.Nodup → (∀ k, k ∈ zs ↔ S k = true) → H p = none → Q (.ref p) (upd H p (.lst (zs.map V.str)))
theorem vals_strsAre : ∀ {us : List Value} {zs : List Str}, StrsAre us zs → Vals (zs.map V.str) us
  | _, _, .nil => .nil
  | _, _, .cons z t h => .cons ⟨t, rfl⟩ (vals_strsAre h)
theorem cr_sortT (hc : X.calm = true) : CallR X (.builtin "sorted") (rSortT X.prog X.w) := by
  intro pins s σ H vs us Q I r h
  obtain ⟨a, S, n, rfl, ha, h64, q⟩ := h
  rw [Vals.ref1 r]
  refine sorted_setT (setTO_get I ha) (I.ok.hd hc) h64 fun s' p out c zs k g o hp hg hi nd hm hl => ?_
  have hlen : (zs.map V.str).length ≤ sizeLine := by rw [List.length_map, hl, sizeLine_eq]; omega
  have hn : H p = none := I.hok.fresh hp
  have J : Inv X pins σ (upd H p (.lst (zs.map V.str))) { s with heap := s'.heap, gens := s'.gens, drawn := s'.drawn, toks := s'.toks } :=
    I.call (ch := []) (Un.laid k hp hn) (I.hok.laid k hp ⟨hlen, out.toList, c, vals_strsAre hi, by rw [Array.toArray_toList]; exact hg⟩) (by rw [g]; exact I.bare) (fun _ z => nomatch z)
  have e : s' = { s with heap := s'.heap, gens := s'.gens, drawn := s'.drawn, toks := s'.toks } := by
    cases s'
    cases s
    cases o
    rfl
  rw [e]
  exact ⟨.ref p, _, J, rfl, q zs p nd hm hn⟩
end
end SwS
set_option linter.all false
set_option maxRecDepth 100000
set_option maxHeartbeats 4000000
/-! {elt for .. in .. for .. in .. for .. in ..}, elt a text: the loops one within another, level by level. -/
namespace SwS
open PySem PySem.Spec PyProof.Rows L2
abbrev Fls : Value → Shared → Prop := fun _ _ => False
abbrev tests (ifs : List Expr) (env : Env) : Sem Bool := forIn ifs true fun c r => if r = true then do let ok ← isTrue c env (eval c env); pure (ForInStep.yield ok) else pure (ForInStep.yield r)
/-- a loop's code C over the iterator it: how one turn of it is shown; run: what follows the store and the tests -/
def TurnR (M : Model) (A : Around) (env : Env) (C : Value → Code) (tg : Expr) (ifs : List Expr) (run : (Shared → Prop) → Shared → Prop) : Prop :=
  ∀ (it : Value) (R : Result → Shared → Prop) (I : Nat → Shared → Prop), (∀ n s, I n s → wpAny M A (pyNext it) (fun r s₁ => match r with
      | none => R (.ok .next) s₁
      | some v => wpAny M A (letOwnedTupleGo tg it v) (fun _ s₁' => wpAny M A (assign tg env v) (fun _ s₂ => wpAny M A (tests ifs env) (fun ok s₃ => if ok = true then run (fun s' => ∃ m, m < n ∧ I m s') s₃ else ∃ m, m < n ∧ I m s₃) Fls s₂) Fls s₁') Fls s₁) Fls s) →
    ∀ n s, I n s → codeAny M A (C it) R s
/-- what is known outside of some slots is known -/
def Kn (vs : List Nat) (σ σ' : L2.St) : Prop := σ.length = σ'.length ∧ ∀ (j : Nat) v, j ∉ vs → σ[j]? = some (some v) → σ'[j]? = some (some v)
def Bod (X : Cx) (vs : List Nat) (tb : L2.St → Hp → (Hp → Prop) → Prop) (run : (Shared → Prop) → Shared → Prop) : Prop :=
  ∀ (pins : List (Addr × Obj)) (s : Shared) (σ : L2.St) (H : Hp) (Nx : Hp → Prop) (K : Shared → Prop), Inv X pins σ H s → tb σ H Nx → (∀ σ' H' s', Inv X pins σ' H' s' → Kn vs σ σ' → Nx H' → K s') → run K s
def Lp (J : It) (g : TG) (tt : L2.TT) (tb : L2.St → Hp → (Hp → Prop) → Prop) (vs : List Nat) (σ : L2.St) (H0 : Hp) (Nx : Hp → Prop) : Prop :=
  ∃ W : Nat → Nat → Hp → Prop, (∃ m, W 0 m H0) ∧ ∀ i m H, W i m H → (J.stop i H ∧ Nx H) ∨ (J.go i H ∧ ∃ Nx1 : Hp → Prop, (∀ H', Nx1 H' → ∃ m', m' < m ∧ W (i + 1) m' H') ∧
    ∀ x H', J.yld i H x H' → g x (wipe σ vs) H' fun σ2 H2 => wipe σ2 vs = wipe σ vs ∧ tt σ2 H2 fun b H3 => if b = true then tb σ2 H3 Nx1 else Nx1 H3)
section
variable {X : Cx}
theorem lvl_loop {C : Value → Code} {tg : Expr} {ifs : List Expr} {run : (Shared → Prop) → Shared → Prop} {g : TG} {tt : L2.TT} {tb : L2.St → Hp → (Hp → Prop) → Prop} {vs vb : List Nat} {J : It} {fp : List Addr} {it : Addr} {tn : Nat → Heap → Prop}
    (hx : X.xe = Fls) (hc : X.calm = true) (TR : TurnR (model X.prog X.w) X.A X.env C tg ifs run) (T : Turn X.prog X.w X.K tg J fp it tn) (pg : PG X tg g) (pt : PTs X ifs tt) (B : Bod X vb tb run) (hv : ∀ i ∈ vb, i ∈ vs)
    {pins : List (Addr × Obj)} {σ : L2.St} {H : Hp} {s : Shared} {Nx : Hp → Prop} {R : Result → Shared → Prop} (stat : ∀ H' : Hp, (∀ b ∈ fp, H' b = none) → ∀ b ∈ fp, FpOk X pins H' b)
    (I : Inv X pins (wipe σ vs) H s) (st : tn 0 s.heap) (hn : ∀ b ∈ fp, H b = none) (h : Lp J g tt tb vs σ H Nx) (hR : ∀ H' s', Inv X pins (wipe σ vs) H' s' → Nx H' → R (.ok .next) s') : codeAny (model X.prog X.w) X.A (C (.ref it)) R s := by
  obtain ⟨W, ⟨m0, w0⟩, turn⟩ := h
  refine TR (.ref it) R (fun k s' => ∃ j H', Inv X pins (wipe σ vs) H' s' ∧ tn j s'.heap ∧ (∀ b ∈ fp, H' b = none) ∧ W j k H') ?_ m0 s ⟨0, H, I, st, hn, w0⟩
  rintro k s1 ⟨j, H1, I1, st1, n1, w1⟩
  rcases turn j k H1 w1 with ⟨stop, nx⟩ | ⟨go, Nx1, hNx, step⟩
  · refine thnF (T.done X rfl rfl rfl hc j _ s1 (wipe σ vs) H1 Fls I1 (stat _ n1) st1 stop) fun r s2 ⟨hr, I2⟩ => ?_
    subst hr
    exact hR H1 s2 I2 nx
  · refine thnF (T.item X rfl rfl rfl hc j _ s1 (wipe σ vs) H1 Fls I1 (stat _ n1) st1 go) fun r s2 ⟨u, hr, h2⟩ => ?_
    subst hr
    refine thnF h2 fun _ s3 ⟨x, H3, I3, r3, y3, st3, n3⟩ => ?_
    have I3' := I3.pinned (stat _ n3) (T.obj _ _ st3)
    have pg' := pg.run _ s3 (wipe σ vs) H3 x u _ I3' r3 (step x H3 y3)
    rw [hx] at pg'
    refine thnF pg' fun _ s4 ⟨σ4, H4, I4, hw4, q4⟩ => ?_
    have pt' := pt.run _ s4 σ4 H4 _ I4 q4
    rw [hx] at pt'
    refine thnF pt' fun b s5 ⟨H5, I5, q5⟩ => ?_
    have fin : ∀ {σ' : L2.St} {s' : Shared} {H' : Hp}, Inv X (pins ++ pinsAt fp s3.heap) σ' H' s' → Kn vb σ4 σ' → Nx1 H' → ∃ m, m < k ∧ ∃ j H', Inv X pins (wipe σ vs) H' s' ∧ tn j s'.heap ∧ (∀ b ∈ fp, H' b = none) ∧ W j m H' := fun {σ' s' H'} I' kn nx => by
      obtain ⟨m', hm, w'⟩ := hNx H' nx
      have pin' : ∀ b ∈ fp, ∀ o, s3.heap.get? b = some o → s'.heap.get? b = some o ∧ H' b = none := fun b hb o e =>
        let z := I'.pin (b, o) (List.mem_append_right _ (List.mem_append_right _ (mem_pinsAt hb e)))
        ⟨z.1, z.2.1⟩
      refine ⟨m', hm, j + 1, H', I'.unpinned.weak (by rw [← hw4, wipe_length]; exact kn.1) (fun j v e => ?_), T.keep _ _ _ st3 fun b hb o e => (pin' b hb o e).1, fun b hb => ?_, w'⟩
      · rw [← hw4] at e
        obtain ⟨e1, e2⟩ := wipe_some e
        exact kn.2 j v (fun z => e2 (hv j z)) e1
      · obtain ⟨o, e, _⟩ := T.obj _ _ st3 b hb
        exact (pin' b hb o e).2
    cases b with
    | false =>
      simp only [Bool.false_eq_true, if_false] at q5 ⊢
      exact fin I5 ⟨rfl, fun _ _ _ e => e⟩ q5
    | true =>
      simp only [if_true] at q5 ⊢
      exact B _ s5 σ4 H5 Nx1 _ I5 q5 fun σ' H' s' I' kn nx => fin I' kn nx
/-- what a clause further in does -/
def runL (M : Model) (A : Around) (env : Env) (iter : Expr) (S : Value → Code) (K : Shared → Prop) (s : Shared) : Prop :=
  wpAny M A (eval iter env) (fun x s₁ => wpAny M A (pyIter x) (fun it s₂ => codeAny M A (S it) (fun r s' => match r with | .ok _ => K s' | .error _ => False) s₂) Fls s₁) Fls s
def StartR (M : Model) (A : Around) (env : Env) (S C : Value → Code) : Prop := ∀ (it : Value) (R : Result → Shared → Prop) (s : Shared), codeAny M A (C it) R s →
  wpAny M A (pyIter it) (fun it' s' => codeAny M A (C it') R s') (notedBy M A env fun x s' => R (.error x) s') s → codeAny M A (S it) R s
theorem bod_lvl {C S : Value → Code} {tg iter : Expr} {ifs : List Expr} {run : (Shared → Prop) → Shared → Prop} {wi : TI} {g : TG} {tt : L2.TT} {tb : L2.St → Hp → (Hp → Prop) → Prop} {vs vb : List Nat}
    (hx : X.xe = Fls) (hc : X.calm = true) (TR : TurnR (model X.prog X.w) X.A X.env C tg ifs run) (SR : StartR (model X.prog X.w) X.A X.env S C) (pi : PI X tg iter wi) (pg : PG X tg g) (pt : PTs X ifs tt) (B : Bod X vb tb run) (hv : ∀ i ∈ vb, i ∈ vs) :
    Bod X vs (fun σ H Nx => wi σ H fun J H1 => Lp J g tt tb vs σ H1 Nx) (runL (model X.prog X.w) X.A X.env iter S) := by
  intro pins s σ H Nx K I h hK
  have pi' := pi.run pins s σ H _ I h
  rw [hx] at pi'
  refine thnF pi' fun xv s1 h1 => thnF h1 fun itv s2 h2 => ?_
  obtain ⟨it, fp, tn, J, H2, e1, I2, T, st2, f2, q⟩ := h2
  subst e1
  have loop : codeAny (model X.prog X.w) X.A (C (.ref it)) (fun r s' => match r with | .ok _ => K s' | .error _ => False) s2 := by
    refine lvl_loop hx hc TR T pg pt B hv (fun H' hn b hb => ⟨hn b hb, (f2 b hb).2⟩) (I2.weak (wipe_length _ _) (fun j v e => (wipe_some e).1)) st2 (fun b hb => (f2 b hb).1) q fun H' s' I' nx => ?_
    exact hK _ H' s' I' ⟨(wipe_length _ _).symm, fun j v hj e => by rw [wipe_out hj]; exact e⟩ nx
  exact SR _ _ _ loop (T.self X.A 0 _ _ _ st2 loop)
/-- the last one: the text is put in -/
def runE (M : Model) (A : Around) (env : Env) (elt : Expr) (acc : Value) (K : Shared → Prop) (s : Shared) : Prop :=
  wpAny M A (eval elt env) (fun x s₁ => wpAny M A (call (.builtin "set.add") [acc, x]) (fun _ s₂ => K s₂) Fls s₁) Fls s
def tE (P : Program) (w : World) (D : Addr) (te : TE) : L2.St → Hp → (Hp → Prop) → Prop := fun σ H Nx => te σ H fun y H1 => ∃ (c : Str) (S : Str → Bool) (n : Nat), y = .str c ∧ H1 D = some (SetTO P w D S n) ∧ n + 1 < scanBound ∧ Nx (upd H1 D (SetTO P w D (fun j => S j || decide (j = c)) (if S c = true then n else n + 1)))
theorem bod_elt {elt : Expr} {D : Addr} {te : TE} (hx : X.xe = Fls) (pe : PE X elt te) : Bod X [] (tE X.prog X.w D te) (runE (model X.prog X.w) X.A X.env elt (.ref D)) := by
  intro pins s σ H Nx K I h hK
  have pe' := pe.run pins s σ H _ I h
  rw [hx] at pe'
  refine thnF pe' fun z s1 ⟨y, H1, I1, r1, c, S, n, ey, hD, hz, nx⟩ => ?_
  subst ey
  obtain ⟨t, rfl⟩ := (show ∃ t, z = Value.str c t from r1)
  exact addT_ok I1 hD hz fun s2 I2 => hK σ _ s2 I2 ⟨rfl, fun _ _ _ e => e⟩ nx
end
/-! ### the three loops -/
section
variable {prog : Program} {w : World} {A : Around} {elt t0 i0 t1 i1 t2 i2 : Expr} {f0 f1 f2 : List Expr} {scope : Scope} {pos : Pos} {acc : Value} {env : Env}
abbrev sc3 (elt t0 i0 t1 i1 t2 i2 : Expr) (f0 f1 f2 : List Expr) (scope : Scope) (pos : Pos) : Expr := .SetComp elt [⟨t0, i0, f0, 0⟩, ⟨t1, i1, f1, 0⟩, ⟨t2, i2, f2, 0⟩] scope pos
theorem turn3_0 (it acc : Value) : compTurn (sc3 elt t0 i0 t1 i1 t2 i2 f0 f1 f2 scope pos) 0 it acc env = (do
      standAt i0.pos
      match ← pyNext it with
      | none => pure (.done .next)
      | some v =>
        letOwnedTupleGo t0 it v
        assign t0 env v
        let ok ← tests f0 env
        if ok then
          let x ← eval i1 env
          standAt i1.pos
          let x ← foldedSetIterable i1 env x
          let _ ← runOwn (.compStart (sc3 elt t0 i0 t1 i1 t2 i2 f0 f1 f2 scope pos) 1 (← holding [x] (pyIter x)) acc env) env
        again (.compLoop (sc3 elt t0 i0 t1 i1 t2 i2 f0 f1 f2 scope pos) 0 it acc env)) := by rfl
theorem turn3_1 (it acc : Value) : compTurn (sc3 elt t0 i0 t1 i1 t2 i2 f0 f1 f2 scope pos) 1 it acc env = (do
      standAt i1.pos
      match ← pyNext it with
      | none => pure (.done .next)
      | some v =>
        letOwnedTupleGo t1 it v
        assign t1 env v
        let ok ← tests f1 env
        if ok then
          let x ← eval i2 env
          standAt i2.pos
          let x ← foldedSetIterable i2 env x
          let _ ← runOwn (.compStart (sc3 elt t0 i0 t1 i1 t2 i2 f0 f1 f2 scope pos) 2 (← holding [x] (pyIter x)) acc env) env
        again (.compLoop (sc3 elt t0 i0 t1 i1 t2 i2 f0 f1 f2 scope pos) 1 it acc env)) := by rfl
theorem turn3_2 (it acc : Value) : compTurn (sc3 elt t0 i0 t1 i1 t2 i2 f0 f1 f2 scope pos) 2 it acc env = (do
      standAt i2.pos
      match ← pyNext it with
      | none => pure (.done .next)
      | some v =>
        letOwnedTupleGo t2 it v
        assign t2 env v
        let ok ← tests f2 env
        if ok then
          (do let v ← eval elt env; standAt elt.pos; let _ ← call (.builtin "set.add") [acc, v])
        again (.compLoop (sc3 elt t0 i0 t1 i1 t2 i2 f0 f1 f2 scope pos) 2 it acc env)) := by rfl
theorem loop3_0 (hs : ∀ x, foldedSetIterable i1 env x = pure x) : TurnR (model prog w) A env (fun it => .compLoop (sc3 elt t0 i0 t1 i1 t2 i2 f0 f1 f2 scope pos) 0 it acc env) t0 f0
    (runL (model prog w) A env i1 fun it => .compStart (sc3 elt t0 i0 t1 i1 t2 i2 f0 f1 f2 scope pos) 1 it acc env) := by
  intro it R I turn n s h
  refine codeAny_loop rfl I (fun n s hI => ?_) n h
  show wpAny _ A ((compTurn (sc3 elt t0 i0 t1 i1 t2 i2 f0 f1 f2 scope pos) 0 it acc env).onRaise (fun x => do noteFrame x env; theTreesLotGoes x)) _ _ s
  refine wpAny_noted ?_
  rw [turn3_0]
  refine wpAny_bind (wpAny_standAt (wpAny_bind (thnF (turn n s hI) fun r s₁ h₁ => ?_)))
  cases r with
  | none => exact wpAny_pure h₁
  | some v =>
    refine wpAny_bind (thnF h₁ fun _ s₂ h₂ => wpAny_bind (thnF h₂ fun _ s₃ h₃ => wpAny_bind (thnF h₃ fun ok s₄ h₄ => ?_)))
    cases ok with
    | false => exact wpAny_pure ⟨rfl, h₄⟩
    | true =>
      refine wpAny_bind (thnF h₄ fun x s₅ h₅ => wpAny_bind (wpAny_standAt (wpAny_bind (wpAny_of_eq (hs x) (wpAny_bind (wpAny_holding (thnF h₅ fun it1 s₆ h₆ => wpAny_bind (wpAny_runOwn ?_))))))))
      rw [Around.mark_none]
      refine codeAny_mono h₆ fun r s' hr => ?_
      cases r with
      | ok f =>
        first
          | exact wpAny_pure ⟨rfl, hr⟩
          | exact wpAny_bind (wpAny_pure (wpAny_pure ⟨rfl, hr⟩))
      | error e => exact hr.elim
theorem loop3_1 (hs : ∀ x, foldedSetIterable i2 env x = pure x) : TurnR (model prog w) A env (fun it => .compLoop (sc3 elt t0 i0 t1 i1 t2 i2 f0 f1 f2 scope pos) 1 it acc env) t1 f1
    (runL (model prog w) A env i2 fun it => .compStart (sc3 elt t0 i0 t1 i1 t2 i2 f0 f1 f2 scope pos) 2 it acc env) := by
  intro it R I turn n s h
  refine codeAny_loop rfl I (fun n s hI => ?_) n h
  show wpAny _ A ((compTurn (sc3 elt t0 i0 t1 i1 t2 i2 f0 f1 f2 scope pos) 1 it acc env).onRaise (fun x => do noteFrame x env; theTreesLotGoes x)) _ _ s
  refine wpAny_noted ?_
  rw [turn3_1]
  refine wpAny_bind (wpAny_standAt (wpAny_bind (thnF (turn n s hI) fun r s₁ h₁ => ?_)))
  cases r with
  | none => exact wpAny_pure h₁
  | some v =>
    refine wpAny_bind (thnF h₁ fun _ s₂ h₂ => wpAny_bind (thnF h₂ fun _ s₃ h₃ => wpAny_bind (thnF h₃ fun ok s₄ h₄ => ?_)))
    cases ok with
    | false => exact wpAny_pure ⟨rfl, h₄⟩
    | true =>
      refine wpAny_bind (thnF h₄ fun x s₅ h₅ => wpAny_bind (wpAny_standAt (wpAny_bind (wpAny_of_eq (hs x) (wpAny_bind (wpAny_holding (thnF h₅ fun it1 s₆ h₆ => wpAny_bind (wpAny_runOwn ?_))))))))
      rw [Around.mark_none]
      refine codeAny_mono h₆ fun r s' hr => ?_
      cases r with
      | ok f =>
        first
          | exact wpAny_pure ⟨rfl, hr⟩
          | exact wpAny_bind (wpAny_pure (wpAny_pure ⟨rfl, hr⟩))
      | error e => exact hr.elim
theorem loop3_2 : TurnR (model prog w) A env (fun it => .compLoop (sc3 elt t0 i0 t1 i1 t2 i2 f0 f1 f2 scope pos) 2 it acc env) t2 f2 (runE (model prog w) A env elt acc) := by
  intro it R I turn n s h
  refine codeAny_loop rfl I (fun n s hI => ?_) n h
  show wpAny _ A ((compTurn (sc3 elt t0 i0 t1 i1 t2 i2 f0 f1 f2 scope pos) 2 it acc env).onRaise (fun x => do noteFrame x env; theTreesLotGoes x)) _ _ s
  refine wpAny_noted ?_
  rw [turn3_2]
  refine wpAny_bind (wpAny_standAt (wpAny_bind (thnF (turn n s hI) fun r s₁ h₁ => ?_)))
  cases r with
  | none => exact wpAny_pure h₁
  | some v =>
    refine wpAny_bind (thnF h₁ fun _ s₂ h₂ => wpAny_bind (thnF h₂ fun _ s₃ h₃ => wpAny_bind (thnF h₃ fun ok s₄ h₄ => ?_)))
    cases ok with
    | false => exact wpAny_pure ⟨rfl, h₄⟩
    | true => exact wpAny_bind (wpAny_bind (thnF h₄ fun x s₅ h₅ => wpAny_bind (wpAny_standAt (wpAny_bind (thnF h₅ fun _ s₆ h₆ => wpAny_pure (wpAny_pure ⟨rfl, h₆⟩))))))
theorem start3_1 : StartR (model prog w) A env (fun it => .compStart (sc3 elt t0 i0 t1 i1 t2 i2 f0 f1 f2 scope pos) 1 it acc env) (fun it => .compLoop (sc3 elt t0 i0 t1 i1 t2 i2 f0 f1 f2 scope pos) 1 it acc env) := by
  intro it R s h0 h
  refine codeAny_of_tree ?_
  show wpAny _ _ ((compStart (sc3 elt t0 i0 t1 i1 t2 i2 f0 f1 f2 scope pos) 1 it acc env).onRaise (fun x => do noteFrame x env; standAt theWindowsPlace)) _ _ s
  refine wpAny_notedAt ?_
  unfold compStart
  show wpAny _ _ (ask >>= _) _ _ s
  refine wpAny_bind (wpAny_askSetting (wpAny_ite ?_))
  split
  · first
      | exact wpAny_bind (wpAny_pure (wpAny_pure (And.intro rfl h0)))
      | exact wpAny_pure (And.intro rfl h0)
  · first
      | exact wpAny_bind (wpAny_rule (wpAny_bind (wpAny_standAt (wpAny_bind (wpAny_mono h (fun it' s' h' => wpAny_pure (And.intro rfl h')) fun _ _ x => x)))))
      | (refine wpAny_bind (wpAny_rule ?_); show wpAny _ _ (standAt i1.pos >>= _) _ _ s; exact wpAny_bind (wpAny_standAt (wpAny_bind (wpAny_mono h (fun it' s' h' => wpAny_pure (And.intro rfl h')) fun _ _ x => x))))
theorem start3_2 : StartR (model prog w) A env (fun it => .compStart (sc3 elt t0 i0 t1 i1 t2 i2 f0 f1 f2 scope pos) 2 it acc env) (fun it => .compLoop (sc3 elt t0 i0 t1 i1 t2 i2 f0 f1 f2 scope pos) 2 it acc env) := by
  intro it R s h0 h
  refine codeAny_of_tree ?_
  show wpAny _ _ ((compStart (sc3 elt t0 i0 t1 i1 t2 i2 f0 f1 f2 scope pos) 2 it acc env).onRaise (fun x => do noteFrame x env; standAt theWindowsPlace)) _ _ s
  refine wpAny_notedAt ?_
  unfold compStart
  show wpAny _ _ (ask >>= _) _ _ s
  refine wpAny_bind (wpAny_askSetting (wpAny_ite ?_))
  split
  · first
      | exact wpAny_bind (wpAny_pure (wpAny_pure (And.intro rfl h0)))
      | exact wpAny_pure (And.intro rfl h0)
  · first
      | exact wpAny_bind (wpAny_rule (wpAny_bind (wpAny_standAt (wpAny_bind (wpAny_mono h (fun it' s' h' => wpAny_pure (And.intro rfl h')) fun _ _ x => x)))))
      | (refine wpAny_bind (wpAny_rule ?_); show wpAny _ _ (standAt i2.pos >>= _) _ _ s; exact wpAny_bind (wpAny_standAt (wpAny_bind (wpAny_mono h (fun it' s' h' => wpAny_pure (And.intro rfl h')) fun _ _ x => x))))
end
/-! ### the whole -/
section
variable {X : Cx}
def tSc3 (P : Program) (w : World) (wi : TI) (g : TG) (tt : L2.TT) (wi1 : TI) (g1 : TG) (tt1 : L2.TT) (wi2 : TI) (g2 : TG) (tt2 : L2.TT) (te : TE) (vs vs1 vs2 : List Nat) : TE := fun σ H Q => wi σ H fun J H1 => ∀ D, H1 D = none →
  Lp J g tt (fun σ H Nx => wi1 σ H fun J1 H2 => Lp J1 g1 tt1 (fun σ H Nx => wi2 σ H fun J2 H3 => Lp J2 g2 tt2 (tE P w D te) vs2 σ H3 Nx) vs1 σ H2 Nx) vs σ (upd H1 D (SetTO P w D (fun _ => false) 0)) (Q (.ref D))
theorem pe_sc3 {elt t0 i0 t1 i1 t2 i2 : Expr} {f0 f1 f2 : List Expr} {scope : Scope} {own : List (Str × Nat)} {vs1 vs2 : List Nat} {pos : Pos} {wi wi1 wi2 : TI} {g g1 g2 : TG} {tt tt1 tt2 : L2.TT} {te : TE} (hc : X.calm = true) (hN : X.N.Nodup) (hi : PI X t0 i0 wi) (ok : BlkOk X.N X.env.scope scope own)
    (hv1 : ∀ i ∈ vs1, i ∈ own.map (·.2)) (hv2 : ∀ i ∈ vs2, i ∈ vs1)
    (hg : ∀ (s : Shared) (H : Hp) (C : Addr) (cl : List (Str × Addr)) (fp : List Addr), PG (X.blk s H scope (compEnvC scope cl C X.env) fp) t0 g) (ht : ∀ (s : Shared) (H : Hp) (C : Addr) (cl : List (Str × Addr)) (fp : List Addr), PTs (X.blk s H scope (compEnvC scope cl C X.env) fp) f0 tt)
    (hi1 : ∀ (s : Shared) (H : Hp) (C : Addr) (cl : List (Str × Addr)) (fp : List Addr), PI (X.blk s H scope (compEnvC scope cl C X.env) fp) t1 i1 wi1)
    (hg1 : ∀ (s : Shared) (H : Hp) (C : Addr) (cl : List (Str × Addr)) (fp : List Addr), PG (X.blk s H scope (compEnvC scope cl C X.env) fp) t1 g1) (ht1 : ∀ (s : Shared) (H : Hp) (C : Addr) (cl : List (Str × Addr)) (fp : List Addr), PTs (X.blk s H scope (compEnvC scope cl C X.env) fp) f1 tt1)
    (hi2 : ∀ (s : Shared) (H : Hp) (C : Addr) (cl : List (Str × Addr)) (fp : List Addr), PI (X.blk s H scope (compEnvC scope cl C X.env) fp) t2 i2 wi2)
    (hg2 : ∀ (s : Shared) (H : Hp) (C : Addr) (cl : List (Str × Addr)) (fp : List Addr), PG (X.blk s H scope (compEnvC scope cl C X.env) fp) t2 g2) (ht2 : ∀ (s : Shared) (H : Hp) (C : Addr) (cl : List (Str × Addr)) (fp : List Addr), PTs (X.blk s H scope (compEnvC scope cl C X.env) fp) f2 tt2)
    (he : ∀ (s : Shared) (H : Hp) (C : Addr) (cl : List (Str × Addr)) (fp : List Addr), PE (X.blk s H scope (compEnvC scope cl C X.env) fp) elt te)
    (hs : ∀ env x, foldedSetIterable i0 env x = pure x := by intro _ _; rfl) (hs1 : ∀ env x, foldedSetIterable i1 env x = pure x := by intro _ _; rfl) (hs2 : ∀ env x, foldedSetIterable i2 env x = pure x := by intro _ _; rfl) :
    PE X (sc3 elt t0 i0 t1 i1 t2 i2 f0 f1 f2 scope pos) (tSc3 X.prog X.w wi g tt wi1 g1 tt1 wi2 g2 tt2 te (own.map (·.2)) vs1 vs2) := by
  refine ⟨fun pins s σ H Q I h => ?_⟩
  show wpAny _ _ (eval (.SetComp elt [⟨t0, i0, f0, 0⟩, ⟨t1, i1, f1, 0⟩, ⟨t2, i2, f2, 0⟩] scope pos) X.env) _ _ _
  rw [PpSet.eval_SetComp]
  have hfree : ∀ y ∈ scope.names, y.2 = .free → ∃ c, X.env.cells.lookup y.1 = some c := fun y hy e => by
    rcases ok.free y hy e with k | k
    · exact I.ok.has _ (.inl k)
    · exact I.ok.has _ (.inr k)
  refine wpAny_comprehension_free (use := none) rfl (hs X.env) (closure_ok hfree) ok.kind (fun y hy e => by rw [ok.uniq y hy, e])
    (thn (hi.run pins s σ H _ I h) fun xv s1 hx => thn hx fun itv s2 h2 => ?_)
  obtain ⟨it, fp, tn, J, H2, e, I2, T, st2, f2', q⟩ := h2
  subst e
  refine PpSet.newSet_ok (newEnv_comp ?_)
  generalize hD : s2.heap.objs.size = D
  have hDn : H2 D = none := I2.hok.fresh (Nat.le_of_eq hD)
  have q := q D hDn
  generalize hs3 : ({ s2 with heap := s2.heap.push { cls := .type "set", dict := none, data := .set #[] 0 (.fresh 0 0 (!X.w.params.followText "set-order")) } } : Shared) = s3
  have I3 : Inv X pins σ (upd H2 D (SetTO X.prog X.w D (fun _ => false) 0)) s3 := by
    rw [← hs3]
    refine I2.laid (t' := s2.toks) (fun b o e => Heap.get?_push_of_some _ e) (Nat.le_of_eq hD) ?_
    rw [← hD]
    exact setTO_new (setT_fresh X.prog X.w)
  have h3 : s3.heap = s2.heap.push { cls := .type "set", dict := none, data := .set #[] 0 (.fresh 0 0 (!X.w.params.followText "set-order")) } := by rw [← hs3]
  have sz : ∀ b ∈ fp, b < s2.heap.objs.size := fun b hb => by
    obtain ⟨o, e, _⟩ := T.obj _ _ st2 b hb
    exact Heap.lt_size e
  have f3 : ∀ b ∈ fp, FpOk X pins (upd H2 D (SetTO X.prog X.w D (fun _ => false) 0)) b ∧ b < s3.heap.objs.size := fun b hb => by
    have hlt := sz b hb
    refine ⟨⟨?_, (f2' b hb).2⟩, by rw [h3, Heap.size_push]; exact Nat.lt_succ_of_lt hlt⟩
    rw [upd_ne (by rw [← hD]; exact Nat.ne_of_lt hlt)]
    exact (f2' b hb).1
  have st3 : tn 0 s3.heap := T.keep _ _ _ st2 fun b _ o e => by rw [h3]; exact Heap.get?_push_of_some _ e
  have I4 := block_start I3 ok hN f3
  have pa := fun (Z : Addr) (cl : List (Str × Addr)) => And.intro (hg s3 (upd H2 D (SetTO X.prog X.w D (fun _ => false) 0)) Z cl fp) (And.intro (ht s3 (upd H2 D (SetTO X.prog X.w D (fun _ => false) 0)) Z cl fp) (And.intro (hi1 s3 (upd H2 D (SetTO X.prog X.w D (fun _ => false) 0)) Z cl fp) (And.intro (hg1 s3 (upd H2 D (SetTO X.prog X.w D (fun _ => false) 0)) Z cl fp)
    (And.intro (ht1 s3 (upd H2 D (SetTO X.prog X.w D (fun _ => false) 0)) Z cl fp) (And.intro (hi2 s3 (upd H2 D (SetTO X.prog X.w D (fun _ => false) 0)) Z cl fp) (And.intro (hg2 s3 (upd H2 D (SetTO X.prog X.w D (fun _ => false) 0)) Z cl fp) (And.intro (ht2 s3 (upd H2 D (SetTO X.prog X.w D (fun _ => false) 0)) Z cl fp) (he s3 (upd H2 D (SetTO X.prog X.w D (fun _ => false) 0)) Z cl fp))))))))
  have pb := pa s3.heap.objs.size (cellsFrom (s3.heap.objs.size + 1) scope.names (cloFrom X.env.cells scope.names []))
  show codeAny _ _ (.compStart (sc3 elt t0 i0 t1 i1 t2 i2 f0 f1 f2 scope pos) 0 (.ref it) (.ref D) (compEnvC scope (cellsFrom (s3.heap.objs.size + 1) scope.names (cloFrom X.env.cells scope.names [])) s3.heap.objs.size X.env)) (compPost (model X.prog X.w) X.A X.xe none (EP X pins σ Q) (.ref D) s3.heap.objs.size) { s3 with heap := pushCells (s3.heap.push { cls := .type "dict", data := .dict #[] }) scope.names }
  have nfp : ∀ b ∈ fp, (upd H2 D (SetTO X.prog X.w D (fun _ => false) 0)) b = none := fun b hb => (f3 b hb).1.1
  generalize hce : compEnvC scope (cellsFrom (s3.heap.objs.size + 1) scope.names (cloFrom X.env.cells scope.names [])) s3.heap.objs.size X.env = ce at I4 pb ⊢
  have cL : ce.locals = s3.heap.objs.size := by subst hce; rfl
  generalize hH3 : upd H2 D (SetTO X.prog X.w D (fun _ => false) 0) = H3 at I3 I4 pb nfp f3 q
  generalize hs4 : ({ s3 with heap := pushCells (s3.heap.push { cls := .type "dict", data := .dict #[] }) scope.names } : Shared) = s4 at I4 ⊢
  have st4 : tn 0 s4.heap := T.keep _ _ _ st3 fun b _ o e => by rw [← hs4]; exact pushCells_keeps _ _ _ _ (Heap.get?_push_of_some _ e)
  obtain ⟨pg, pt, pi1, pg1, pt1, pi2, pg2, pt2, pe⟩ := pb
  have B2 := bod_elt (X := X.blk s3 H3 scope ce fp) (D := D) rfl pe
  have B1 := bod_lvl (X := X.blk s3 H3 scope ce fp) (vs := vs2) rfl hc (loop3_2 (t0 := t0) (i0 := i0) (t1 := t1) (i1 := i1) (i2 := i2) (f0 := f0) (f1 := f1) (scope := scope) (pos := pos)) start3_2 pi2 pg2 pt2 B2 (fun _ z => nomatch z)
  have B0 := bod_lvl (X := X.blk s3 H3 scope ce fp) (vs := vs1) rfl hc (loop3_1 (t0 := t0) (i0 := i0) (i1 := i1) (f0 := f0) (hs2 ce)) start3_1 pi1 pg1 pt1 B1 hv2
  have stat : ∀ H' : Hp, (∀ b ∈ fp, H' b = none) → ∀ b ∈ fp, FpOk (X.blk s3 H3 scope ce fp) [] H' b := fun H' hn b hb =>
    ⟨hn b hb, (I4.ok.exf b hb).1, I4.ok.exfs b hb, .inl hb, fun x c e => (I4.ok.exf b hb).2 x c e, fun p hp => absurd (show p ∈ ([] : List (Addr × Obj)) ++ [] from hp) (by simp)⟩
  have loop : codeAny (model X.prog X.w) X.A (.compLoop (sc3 elt t0 i0 t1 i1 t2 i2 f0 f1 f2 scope pos) 0 (.ref it) (.ref D) ce) (compPost (model X.prog X.w) X.A X.xe none (EP X pins σ Q) (.ref D) s3.heap.objs.size) s4 := by
    refine lvl_loop (X := X.blk s3 H3 scope ce fp) (vs := own.map (·.2)) rfl hc (loop3_0 (i0 := i0) (hs1 ce)) T pg pt B0 hv1 stat I4 st4 nfp q fun H5 s6 I6 qq => ?_
    have I7 : Inv X pins σ H5 s6 := I3.call' (ch := fp) I6.os I6.base I6.hok I6.bare fun b hb => ⟨(f3 b hb).1.2.2.2.1, (f3 b hb).1.2.1, (f3 b hb).1.2.2.2.2.1, (f3 b hb).1.2.2.2.2.2⟩
    have nC : H5 s3.heap.objs.size = none := by
      have z : H5 ce.locals = none := I6.free
      rw [cL] at z
      exact z
    obtain ⟨m, hn, _⟩ := I6.loc
    have hn : s6.heap.Ns ce.locals m := hn
    rw [cL] at hn
    refine ⟨m, hn, fun h'' sb => ?_⟩
    obtain ⟨f0, f1, f2, f3, f4, f5⟩ := I3.fpOk (Nat.le_refl _) nC
    exact ⟨.ref D, H5, I7.turned (t' := s6.toks) (fun b o hb e => (sb.2 b hb).trans e) f0 f1 f3 f4 f5, rfl, qq⟩
  exact PpSet.codeAny_compStart_set loop (T.self X.A 0 _ _ _ st4 loop)
end
end SwS
set_option linter.all false
set_option maxRecDepth 100000
set_option maxHeartbeats 4000000
/-! SwF24: the methods that occur in hooks. Terms printed by gen_term.py. -/
namespace Sw
open PySem PySem.Spec PyProof.Rows L2 LamX
section
variable {P : Program} {w : World} {K : PySem.W.Frag} {mg : Str → Option Value} {base : Heap}


open SwS in
theorem lp_it {J : It} {n : Nat} {G : Hp → Prop} {Y : Nat → Hp → V → Hp → Prop} (w : Walk J n G Y) {g : TG} {tt : L2.TT} {tb : L2.St → Hp → (Hp → Prop) → Prop} {vs : List Nat} {σ : L2.St} {H0 : Hp} {Nx : Hp → Prop} (Pv : Nat → Hp → Prop) (h0 : Pv 0 H0) (hG : ∀ i H, i ≤ n → Pv i H → G H)
    (hs : ∀ i x H H', i < n → Pv i H → Y i H x H' → g x (wipe σ vs) H' fun σ2 H2 => wipe σ2 vs = wipe σ vs ∧ tt σ2 H2 fun b H3 => if b = true then tb σ2 H3 (Pv (i + 1)) else Pv (i + 1) H3) (hd : ∀ H, Pv n H → Nx H) : Lp J g tt tb vs σ H0 Nx := by
  refine ⟨fun i m H => m = n - i ∧ i ≤ n ∧ Pv i H, ⟨n, by simp, Nat.zero_le _, h0⟩, ?_⟩
  rintro i m H ⟨rfl, hi, p⟩
  by_cases hlt : i < n
  · exact .inr ⟨w.goes i H hlt (hG i H hi p), Pv (i + 1), fun H' p' => ⟨n - (i + 1), by omega, rfl, hlt, p'⟩, fun x H' y => hs i x H H' hlt p (w.yields i H x H' hlt (hG i H hi p) y)⟩
  · obtain rfl : i = n := by omega
    exact .inl ⟨w.stops H (hG _ H hi p), hd H p⟩
/-- the set's members as a list -/
structure MsI (U : Tb) (S : Str → Bool) (n : Nat) (ms : List Str) : Prop where
  nd : ms.Nodup
  mem : ∀ k, S k = true ↔ k ∈ ms
  len : n = ms.length
  snd : ∀ k ∈ ms, U.meth k
theorem MsI.sz {U : Tb} {S : Str → Bool} {n : Nat} {ms : List Str} (h : MsI U S n ms) (ok : U.Ok) : n ≤ 5 := by
  rw [h.len]
  exact length_le_of_nodup_of_subset _ Tb.METHS h.nd fun m hm => ok.meth_in (h.snd m hm)
theorem MsI.add {U : Tb} {S : Str → Bool} {n : Nat} {ms : List Str} (h : MsI U S n ms) {m : Str} (hm : U.meth m) : ∃ ms', MsI U (fun j => S j || decide (j = m)) (if S m = true then n else n + 1) ms' ∧ (∀ k ∈ ms, k ∈ ms') ∧ m ∈ ms' := by
  by_cases e : m ∈ ms
  · refine ⟨ms, ⟨h.nd, fun k => ?_, by rw [if_pos ((h.mem m).2 e)]; exact h.len, h.snd⟩, fun k hk => hk, e⟩
    rw [Bool.or_eq_true, decide_eq_true_eq, h.mem k]
    exact ⟨fun z => z.elim id fun q => by rw [q]; exact e, .inl⟩
  · refine ⟨ms ++ [m], ⟨?_, fun k => ?_, ?_, fun k hk => ?_⟩, fun k hk => List.mem_append_left _ hk, by simp⟩
    · rw [List.nodup_append]
      refine ⟨h.nd, by simp, fun x hx y hy z => ?_⟩
      rw [List.mem_singleton.mp hy] at z
      exact e (by rw [← z]; exact hx)
    · rw [Bool.or_eq_true, decide_eq_true_eq, h.mem k, List.mem_append, List.mem_singleton]
    · rw [if_neg (fun z => e ((h.mem m).1 z)), List.length_append, h.len]; rfl
    · rcases List.mem_append.mp hk with z | z
      · exact h.snd k z
      · rw [List.mem_singleton.mp z]; exact hm
theorem paired_flip {α : Type} {R : α → V → Prop} {S : α → V → Prop} : ∀ {l : List α} {r : List V}, Paired (fun a v => ∃ b : α, R a v ∧ S b v) l r → ∃ l' : List α, Paired S l' r
  | _, _, .nil => ⟨[], .nil⟩
  | _, _, .cons ⟨b, _, h⟩ t => by
    obtain ⟨l', h'⟩ := paired_flip t
    exact ⟨b :: l', .cons h h'⟩
theorem hooks_of {H : Hp} {U : Tb} : ∀ {l : List Str} {rs : List V}, Paired (fun n v => ∃ h, (U.cl n).hook = some h ∧ HookAt H v h) l rs → ∃ hs : List Hook, Paired (fun h v => HookAt H v h) hs rs ∧ ∀ h, h ∈ hs ↔ ∃ n ∈ l, (U.cl n).hook = some h
  | _, _, .nil => ⟨[], .nil, fun h => ⟨fun z => (by cases z), fun ⟨_, z, _⟩ => (by cases z)⟩⟩
  | n :: l, v :: rs, .cons ⟨h0, e, a⟩ t => by
    obtain ⟨hs, h1, h2⟩ := hooks_of t
    refine ⟨h0 :: hs, .cons a h1, fun h => ?_⟩
    rw [List.mem_cons, h2]
    constructor
    · rintro (z | ⟨m, z1, z2⟩)
      · exact ⟨n, List.mem_cons_self, by rw [z]; exact e⟩
      · exact ⟨m, List.mem_cons_of_mem _ z1, z2⟩
    · rintro ⟨m, z1, z2⟩
      rcases List.mem_cons.mp z1 with z | z
      · subst z; rw [e] at z2; exact .inl (Option.some.inj z2).symm
      · exact .inr ⟨m, z, z2⟩
/-- all methods of some clauses are in -/
def InC (cs : Hook) (ms : List Str) : Prop := ∀ c ∈ cs, ∀ m ∈ c.1, m ∈ ms

theorem sc_methods_in : FnScope ["table", "hooks", "entry", "hook", "methods", "answer", "method"] ["table"] (defScope s_methods_in) := ⟨rfl, rfl, rfl, by decide +kernel, rfl, by decide +kernel, by decide +kernel⟩
theorem ok_methods_in (T : Tx K mg)  : Cal P w K mg base "methods_in" 2 ["table"] spMeths := by
  obtain ⟨fd, F⟩ := T.fn _ fi_methods_in
  have G : FnOk P w K mg base CX0 2 d_methods_in.f fd ["table"] spMeths := by
    refine F.ok sc_methods_in (fun vs H Q E h => ?_) (fun cdv A outer s H vs Q E hr h => ⟨_, PSs.nox (X := cxOf CX0 P w K mg base _ _ _ _ cdv A outer s H E) ((pss_cons (ps_lock (ps_setLc (i := 1) (own := [("entry", 2)]) rfl sc_methods_in.nd rfl rfl (sw_true rfl rfl rfl (by decide +kernel)) (pi_values (wfld K (pv 0) rfl)) (blkOk_by (N := ["table", "hooks", "entry", "hook", "methods", "answer", "method"]) (sc := defScope s_methods_in) (own := [("entry", 2)]) (by decide +kernel)) (fun _ _ _ _ _ => (pg_name (i := 2) sc_methods_in.nd rfl (Or.inl rfl))) (fun _ _ _ _ _ => (pts_one (pt_cmpR op_notN (wfld K (pv 2) rfl) pe_non (nomark _)))) (fun _ _ _ _ _ => (wfld K (pv 2) rfl))))
    (pss_one (ps_ret (pe_callB (SwS.cr_sortT rfl) (by rfl) T.f_sorted bb_sorted (pa_cons (SwS.pe_sc3 (own := [("hook", 3), ("methods", 4), ("answer", 5), ("method", 6)]) (vs1 := [4, 5, 6]) (vs2 := [6]) rfl sc_methods_in.nd (wlist K (pv 1)) (blkOk_by (N := ["table", "hooks", "entry", "hook", "methods", "answer", "method"]) (sc := defScope s_methods_in) (own := [("hook", 3), ("methods", 4), ("answer", 5), ("method", 6)]) (by decide +kernel)) (by decide) (by decide) (fun _ _ _ _ _ => (pg_name (i := 3) sc_methods_in.nd rfl (Or.inl rfl))) (fun _ _ _ _ _ => pts_nil) (fun _ _ _ _ _ => (witup K (pv 3))) (fun _ _ _ _ _ => (wtup (n := 2) K rfl (pgs_cons (pg_name (i := 4) sc_methods_in.nd rfl (Or.inl rfl)) (pgs_cons (pg_name (i := 5) sc_methods_in.nd rfl (Or.inl rfl)) pgs_nil)))) (fun _ _ _ _ _ => pts_nil) (fun _ _ _ _ _ => (witup K (pv 4))) (fun _ _ _ _ _ => (pg_name (i := 6) sc_methods_in.nd rfl (Or.inl rfl))) (fun _ _ _ _ _ => pts_nil) (fun _ _ _ _ _ => (pv 6))) pa_nil)))))), ?_⟩)
    · obtain ⟨_, _, rfl, _⟩ := h
      rfl
    · obtain ⟨t, U, rfl, R, ok, k⟩ := h
      obtain ⟨dx, r, nb, l, mk, ht, ⟨ad, hr0, hE⟩, _, _⟩ := R.ex
      refine ⟨r, .dK (kvR U.names ad), hr0, trivial, fun od => ⟨_, rfl, _, cTable, dx, _, _, rfl, lock_at hr0 ht (by intro q; cases q), T.cl_Table, T.n_Table_records, fsT_records, r, od, _, rfl, upd_same, fun D hD => ?_⟩⟩
      have hz := ok.sz
      have wv := walk_values (d := r) (o := od) (kvs := kvR U.names ad)
      rw [kvR_len] at wv
      refine lc_go wv (fun _ i y _ => ∃ n, U.names[i]? = some n ∧ ∃ h, (U.cl n).hook = some h ∧ HookAt H y h) (fun i => (U.cl (U.names.getD i Str.empty)).hook.isSome) (by omega) hD (fun i H x H' y => by rw [y.1]; exact Le.refl _) (fun H' e => e.at upd_same) (fun _ _ _ _ _ h => h) ?_ ?_
      · rintro i x Ha Hb hi e1 e2 ⟨rfl, kk, hx⟩ _ QF QT h1 h2
        have hgd : U.names.getD i Str.empty = U.names[i] := by rw [List.getD_eq_getElem?_getD, List.getElem?_eq_getElem hi]; rfl
        unfold kvR at hx
        rw [List.getElem?_map, List.getElem?_eq_getElem hi] at hx
        cases hx
        rw [hgd] at h1 h2
        obtain ⟨dx2, tp, mk2, hv, ln, he, _, _, hhv, _⟩ := (hE _ (List.getElem_mem hi)).ex
        have he2 := e2.at (lock_at hr0 he (by intro q; cases q))
        refine ⟨rfl, _, rfl, _, cEntry, dx2, _, _, rfl, he2, T.cl_Entry, T.n_Entry_own_hook, fsE_hook, rfl, ?_⟩
        cases hq : (U.cl U.names[i]).hook with
        | none =>
          rw [hq] at hhv
          cases hhv
          exact ⟨_, rfl, iteF (h1 _ (Le.refl _) (by rw [hq]; rfl))⟩
        | some h =>
          rw [hq] at hhv
          have hn2 : decide (hv = V.non) = false := by
            obtain ⟨a, _, rfl, _⟩ := hhv
            rfl
          rw [hn2]
          exact ⟨_, rfl, iteT ⟨_, rfl, _, cEntry, dx2, _, _, rfl, he2, T.cl_Entry, T.n_Entry_own_hook, fsE_hook, h2 _ _ (Le.refl _) (by rw [hq]; rfl) ⟨_, List.getElem?_eq_getElem hi, h, hq, hhv⟩⟩⟩
      · intro rs H2 e1 hD2 hg
        have nD : D ≠ r := by rintro rfl; rw [upd_same] at hD; cases hD
        refine ⟨e1.at upd_same, ?_⟩
        have e2 : Le H (upd H2 r (.dK (kvR U.names ad))) := lock_le hr0 rfl e1
        have hD3 : upd H2 r (.dK (kvR U.names ad)) D = some (.lst rs) := by rw [upd_ne nD]; exact hD2
        obtain ⟨hs, hps, hhs⟩ := hooks_of (got_filter (l := U.names) (p := fun n => (U.cl n).hook.isSome) (R := fun n v => ∃ h, (U.cl n).hook = some h ∧ HookAt H v h) Str.empty hg)
        generalize upd H2 r (.dK (kvR U.names ad)) = H3 at e2 hD3
        have hlen := Paired.length hps
        show gName 1 _ _ _ _
        refine ⟨_, rfl, D, rfl, ⟨_, SqL.of hD3⟩, fun E hE0 => ?_⟩
        have nDE : D ≠ E := fun z => by rw [z, hE0] at hD3; cases hD3
        have kp : ∀ {a : Addr} {o o' : HO}, H a = some o → plainO o = true → upd H3 E o' a = some o := fun h n => by
          rw [upd_ne (fun z => by rw [z] at h; rw [e2.at h n] at hE0; cases hE0)]
          exact e2.at h n
        refine lp_it (walk_list (K := K) (a := D) (xs := rs)) (fun i H' => ∃ S n ms, H' = upd H3 E (SwS.SetTO P w E S n) ∧ MsI U S n ms ∧ ∀ h ∈ hs.take i, InC h ms) ⟨_, _, [], rfl, ⟨List.nodup_nil, fun k => by simp, rfl, fun k hk => by cases hk⟩, fun h hh => by simp at hh⟩ (fun i H' _ ⟨S, n, ms, e, _⟩ => by rw [e]; exact SqL.of (by rw [upd_ne nDE]; exact hD3)) ?_ ?_
        · rintro i x Ha Hb hi ⟨S, n, ms, rfl, M, hin⟩ ⟨rfl, hx⟩
          have hip : i < hs.length := by omega
          obtain ⟨b, hb, a, vs, rfl, ha, hcs⟩ := Paired.at hps (List.getElem?_eq_getElem hip)
          rw [hx] at hb
          cases hb
          have hmem := List.getElem_mem hip
          have htk : hs.take (i + 1) = hs.take i ++ [hs[i]] := take_snoc (List.getElem?_eq_getElem hip)
          rw [htk]
          generalize hs[i] = h at hcs hmem
          obtain ⟨nn, hnn, hnh⟩ := (hhs h).1 hmem
          have hlc := (Paired.length hcs).symm
          refine ⟨rfl, _, rfl, a, rfl, ⟨_, SqT.of (kp ha rfl)⟩, ?_⟩
          refine lp_it (walk_tup (K := K) (a := a) (xs := vs)) (fun j H' => ∃ S n ms, H' = upd H3 E (SwS.SetTO P w E S n) ∧ MsI U S n ms ∧ (∀ h ∈ hs.take i, InC h ms) ∧ InC (h.take j) ms) ⟨S, n, ms, rfl, M, hin, fun c hc => by simp at hc⟩ (fun j H' _ ⟨S, n, ms, e, _⟩ => by rw [e]; exact SqT.of (kp ha rfl)) ?_ ?_
          · rintro j y Hc Hd hj ⟨S1, n1, ms1, rfl, M1, hin1, hc1⟩ ⟨rfl, hy⟩
            have hjc : j < h.length := by omega
            obtain ⟨cc, hb2, b, m, rfl, hb, hcm⟩ := Paired.at hcs hy
            have hcl := List.mem_of_getElem? hb2
            have htk2 : h.take (j + 1) = h.take j ++ [cc] := take_snoc hb2
            rw [htk2]
            refine ⟨_, _, rfl, SqT.of (kp hb rfl), rfl, _, _, rfl, _, _, rfl, rfl, rfl, _, rfl, _, rfl, ⟨_, SqT.of (kp hcm rfl)⟩, ?_⟩
            refine lp_it (ws_tup (K := K) (a := m) (l := cc.1)) (fun q H' => ∃ S n ms, H' = upd H3 E (SwS.SetTO P w E S n) ∧ MsI U S n ms ∧ (∀ h ∈ hs.take i, InC h ms) ∧ InC (h.take j) ms ∧ ∀ x ∈ cc.1.take q, x ∈ ms) ⟨S1, n1, ms1, rfl, M1, hin1, hc1, fun c hc => by simp at hc⟩ (fun q H' _ ⟨S, n, ms, e, _⟩ => by rw [e]; exact SqT.of (kp hcm rfl)) ?_ ?_
            · rintro q y2 He Hf hq ⟨S2, n2, ms2, rfl, M2, hin2, hc2, hq2⟩ ⟨rfl, z, hz2, rfl⟩
              have hmt : U.meth z := ⟨nn, (List.mem_filter.mp hnn).1, h, hnh, cc, hcl, List.mem_of_getElem? hz2⟩
              obtain ⟨ms3, M3, g1, g2⟩ := M2.add hmt
              have h5 := M2.sz ok
              refine ⟨rfl, _, rfl, z, S2, n2, rfl, upd_same, by unfold scanBound; omega, _, _, ms3, upd_upd, M3, fun h hh c hc m hm => g1 _ (hin2 h hh c hc m hm), fun c hc m hm => g1 _ (hc2 c hc m hm), fun x hx => ?_⟩
              rw [take_snoc hz2] at hx
              rcases List.mem_append.mp hx with w1 | w1
              · exact g1 _ (hq2 x w1)
              · rw [List.mem_singleton.mp w1]; exact g2
            · rintro He ⟨S2, n2, ms2, rfl, M2, hin2, hc2, hq2⟩
              rw [List.take_length] at hq2
              refine ⟨S2, n2, ms2, rfl, M2, hin2, fun c hc => ?_⟩
              rcases List.mem_append.mp hc with w1 | w1
              · exact hc2 c w1
              · rw [List.mem_singleton.mp w1]; exact hq2
          · rintro Hc ⟨S1, n1, ms1, rfl, M1, hin1, hc1⟩
            rw [← hlc, List.take_length] at hc1
            refine ⟨S1, n1, ms1, rfl, M1, fun h2 hh => ?_⟩
            rcases List.mem_append.mp hh with w1 | w1
            · exact hin1 h2 w1
            · rw [List.mem_singleton.mp w1]; exact hc1
        · rintro H4 ⟨S, n, ms, rfl, M, hin⟩
          rw [← hlen, List.take_length] at hin
          have h5 := M.sz ok
          refine ⟨E, S, n, rfl, upd_same, by omega, fun zs p nd hm hp => ?_⟩
          refine k p _ zs ((e2.trans (Le.new hE0)).trans (Le.new hp)) upd_same nd fun m => ?_
          rw [hm m, M.mem m]
          refine ⟨M.snd m, fun ⟨n0, a1, h, a2, c, a3, a4⟩ => ?_⟩
          exact hin h ((hhs h).2 ⟨n0, List.mem_filter.mpr ⟨a1, by rw [a2]; rfl⟩, a2⟩) c a3 m a4
  exact ⟨⟨_, fd, G, T.g_methods_in, F.kp, F.bindsN (ps := ["table"]) fun _ _ _ _ _ _ us hl => match us, hl with | [_], _ => rfl⟩⟩

end
end Sw
set_option linter.all false
set_option maxRecDepth 100000
set_option maxHeartbeats 2000000
/-! tuple(d). -/
namespace PySem
open Sem (wp)
open AutoSeq1 (wpAny_loadPart')
section
variable {prog : Program} {w : World} {A : Around} {E : Value → Shared → Prop} {s : Shared} {T : String} {r d : Addr} {n : Nat} {P : Nat → Value → Prop} {OK : Heap → Prop}
theorem sw_proto {R : Result → Shared → Prop} (K : W.KdlSrc prog w T r d n P OK) (hh : A.handled = none) (hok : OK s.heap) (hn : n ≤ sizeLine)
    (hQ : ∀ (h' : Heap) (tk : Nat) (S : Addr) (acc' : Array Value) (c' : Nat), (∀ b o, s.heap.get? b = some o → h'.get? b = some o) → h'.get? S = some { cls := .type "list", dict := none, data := .seq acc' c', slots := #[] } → ItemsOf P acc' n → R (.ok (.ret (.ref S))) { s with heap := h', toks := tk }) :
    codeAny (model prog w) A (.builtin "proto.collect" ⟨[.ref r], []⟩) R s := by
  have hlt := K.there _ hok
  refine codeAny_builtin F.entry_proto_collect ?_
  rw [Around.under_plainId F.plain_proto_collect _]
  show wpAny _ A.in1 (newList [] >>= fun l => again (.builtin "list.__iadd__" ⟨[l, .ref r], []⟩)) _ _ s
  refine wpAny_bind (wpAny_newObj_type ?_)
  refine wpAny_pure ⟨plainId_quiet F.plain_list_iadd _, codeAny_builtin F.entry_list_iadd ?_⟩
  rw [Around.under_plainId F.plain_list_iadd _]
  show wpAny _ A.in1 (Builtin.List.listExtendWith (.ref s.heap.objs.size) (.ref r) (.ref s.heap.objs.size)) _ _ _
  refine W.kdl_extend (R := R) (s := { s with heap := s.heap.push { cls := .type "list", data := .seq ([] : List Value).toArray } }) K hh (K.keep _ _ hok fun b _ o e => Heap.get?_push_of_some _ e) s.heap.objs.size (Nat.ne_of_gt hlt.1) (Nat.ne_of_gt hlt.2) _ _ (Heap.get?_push_size _ rfl) (fun h' tk acc' c' hk hS' hacc => ?_) hn
  exact hQ h' tk s.heap.objs.size acc' c' (fun b o e => hk b o (Nat.ne_of_lt (Heap.lt_size e)) (Heap.get?_push_of_some _ e)) hS' hacc
theorem sw_tuple_new {Q₁ : Value → Shared → Prop} (K : W.KdlSrc prog w T r d n P OK) (hh : A.handled = none) (hok : OK s.heap)
    (h : ∀ (h' : Heap) (tk : Nat) (acc : Array Value), (∀ b o, s.heap.get? b = some o → h'.get? b = some o) → ItemsOf P acc n → Q₁ (.ref h'.objs.size) { s with heap := h'.push { cls := .type "tuple", data := .seq acc }, toks := tk }) (hsz : n ≤ sizeLine) :
    codeAny (model prog w) A (.call (.builtin "tuple.__new__") ⟨[.type "tuple", .ref r], []⟩) (wants Q₁ E) s := by
  refine codeAny_of_tree ?_
  show wpAny _ A.in1 (do checkBuiltinCall "tuple.__new__" ⟨[.type "tuple", .ref r], []⟩; again (.builtin "tuple.__new__" ⟨[.type "tuple", .ref r], []⟩)) _ _ s
  refine wpAny_bind (wpAny_of_eq (F.newCall_tuple_1 _) (wpAny_pure ⟨plainId_quiet F.plain_tuple_new _, codeAny_builtin F.entry_tuple_new ?_⟩))
  rw [Around.under_plainId F.plain_tuple_new _]
  have hsub := sub_tuple_self
  have hinit := init_tuple_lookup
  have hmh := madeHere_tuple
  have hTI := K.type s hok
  have hx := K.notTuple
  wp_walk using wpAny_typeOf hTI
  all_goals first
    | exact sw_proto K hh hok hsz (fun h' tk S acc c' hk hS hacc => by
        show wpAny _ _ (load S >>= _) _ _ _
        refine wpAny_bind (wpAny_load hS (wpAny_pure ?_))
        show wpAny _ _ (Builtin.Tuple.tupleExact acc.toList.toArray >>= fun v => ret v) _ _ _
        unfold Builtin.Tuple.tupleExact
        refine wpAny_bind (wpAny_newObj_type ?_ (by show acc.toList.toArray.size ≤ sizeLine; simp only [Array.toArray_toList]; rw [hacc.1]; exact hsz))
        refine wpAny_pure ?_
        have e : acc.toList.toArray = acc := by simp
        rw [e]
        exact h h' tk acc hk hacc)
theorem sw_call_tuple {Q : Value → Shared → Prop} (K : W.KdlSrc prog w T r d n P OK) (hh : A.handled = none) (hok : OK s.heap)
    (hQ : ∀ (h' : Heap) (tk : Nat) (acc : Array Value), (∀ b o, s.heap.get? b = some o → h'.get? b = some o) → ItemsOf P acc n → Q (.ref h'.objs.size) { s with heap := h'.push { cls := .type "tuple", data := .seq acc }, toks := tk }) (hsz : n ≤ sizeLine) :
    wpAny (model prog w) A (call (.type "tuple") [.ref r]) Q E s := by
  refine callType_codes (Q₁ := fun obj s₁ => s₁.TypeIs obj "tuple" ∧ Q obj s₁) F.called_tuple (F.typeCall_tuple_1 _) F.entry_object_init
    (sw_tuple_new (hsz := hsz) K hh hok fun h' tk acc hk hacc => ⟨⟨_, Heap.get?_push_size _ rfl, rfl⟩, hQ h' tk acc hk hacc⟩) fun obj s₁ h₁ => ?_
  exact ⟨h₁.1, F.args_object_init_2 obj _, object_init_meets F.called_tuple.init.lookup F.called_tuple.made (by decide) prog w A.in1 _ s₁ ⟨h₁.1, rfl, h₁.2⟩⟩
end
end PySem
set_option linter.all false
set_option maxRecDepth 100000
set_option maxHeartbeats 2000000
/-! sorted(d.items()), d a dict of texts by texts: the machine's part. -/
namespace Sw
open PySem PySem.Spec PyProof.Rows L2 LamX SrtO
abbrev ltC (x y : List Nat) : Bool := decide (x < y)
theorem swo_C {α : Type} (k : α → List Nat) : Swo (fun x y => ltC (k x) (k y)) := by
  refine ⟨fun x y h => ?_, fun x y z h1 h2 => ?_⟩
  · have a := of_decide_eq_true h
    exact decide_eq_false (List.lt_asymm a)
  · have a := of_decide_eq_false h1
    have b := of_decide_eq_false h2
    exact decide_eq_false (List.not_lt.mpr (List.le_trans (List.not_lt.mp a) (List.not_lt.mp b)))
/-- v is a tuple of two texts -/
def TxPair (h : Heap) (v : Value) (p : Str × Str) : Prop := ∃ a o t u n, v = .ref a ∧ h.get? a = some o ∧ o.cls = .type "tuple" ∧ o.data = .seq #[.str p.1 t, .str p.2 u] n
theorem TxPair.keeps {h h' : Heap} {v : Value} {p : Str × Str} (x : TxPair h v p) (k : ∀ b o, h.get? b = some o → o.cls = .type "tuple" → h'.get? b = some o) : TxPair h' v p := by
  obtain ⟨a, o, t, u, n, e, ho, hc, hd⟩ := x
  exact ⟨a, o, t, u, n, e, k _ _ ho hc, hc, hd⟩
section
variable {prog : Program} {w : World} {A : Around} {E : Value → Shared → Prop} {s : Shared}
theorem tx_firsts {h : Heap} {k : Value → Str × Str} : ∀ {vs : List Value}, (∀ v ∈ vs, TxPair h v (k v)) → ∃ fs : List Value, PySem.W.KatTups h vs fs ∧ fs.length = vs.length ∧ ∀ f ∈ fs, ∃ x t, f = Value.str x t
  | [], _ => ⟨[], PySem.W.KatTups.nil, rfl, fun _ hm => by simp at hm⟩
  | v :: vs, hp => by
    obtain ⟨fs, h1, h2, h3⟩ := tx_firsts (vs := vs) fun v' hm => hp v' (List.mem_cons_of_mem _ hm)
    obtain ⟨a, o, t, u, n, e, ho, hc, hd⟩ := hp v (List.mem_cons_self ..)
    subst e
    refine ⟨.str (k (.ref a)).1 t :: fs, PySem.W.KatTups.cons ho hc hd rfl h1, by rw [List.length_cons, List.length_cons, h2], fun f hf => ?_⟩
    rcases List.mem_cons.mp hf with rfl | hf
    · exact ⟨_, _, rfl⟩
    · exact h3 f hf
theorem tx_cmp {vs : List Value} {k : Value → Str × Str} (hp : ∀ v ∈ vs, TxPair s.heap v (k v)) (hi : ∀ v ∈ vs, ∀ u ∈ vs, (k v).1 = (k u).1 → (k v).2 = (k u).2) : Cmp prog w A s (tuples' true) (fun p => p.1 ∈ vs) (lt2 fun v u => ltC (k v).1.cps.toList (k u).1.cps.toList) := by
  intro p q hm hm'
  have h1 := hp _ hm
  have h2 := hp _ hm'
  have h3 := hi _ hm _ hm'
  show wpAny (model prog w) A (keyLt' (tuples' true) p.1 q.1) (fun r s' => s' = s ∧ r = ltC (k p.1).1.cps.toList (k q.1).1.cps.toList) (fun _ _ => False) s
  generalize (k p.1) = x at h1 h3 ⊢
  generalize (k q.1) = x' at h2 h3 ⊢
  obtain ⟨a, o, t, u, n, e, ho, hc, hd⟩ := h1
  obtain ⟨a', o', t', u', n', e', ho', hc', hd'⟩ := h2
  rw [e, e']
  refine PySem.W.kat_lt ho hd ho' hd' ?_
  show PySem.W.KatLex prog w A true (decide (2 < 2)) _ [(.str x.1 t, .str x'.1 t'), (.str x.2 u, .str x'.2 u')] 0 s
  refine PySem.W.kat_cons (SeqAt.EqAt.str_str x.1 t x'.1 t' prog w _ _ ?_)
  refine PySem.W.kat_go (fun e1 => ?_) (fun e1 => ?_)
  · have ex : x.1 = x'.1 := by simpa using e1
    refine PySem.W.kat_yes (PySem.W.kat_cons (SeqAt.EqAt.str_str x.2 u x'.2 u' prog w _ _ ?_))
    refine PySem.W.kat_go (fun e2 => ?_) (fun e2 => ?_)
    · refine PySem.W.kat_yes (PySem.W.kat_nil ⟨rfl, ?_⟩)
      rw [ex]
      exact (decide_eq_false (List.lt_irrefl _)).symm
    · have e3 := h3 ex
      rw [e3] at e2
      simp at e2
  · exact PySem.W.kat_no (oneLt_str ⟨rfl, rfl⟩)
theorem tx_sortable {a : Addr} {vs : List Value} {k : Value → Str × Str} (h0 : 0 < vs.length) (hp : ∀ v ∈ vs, TxPair s.heap v (k v)) (hi : ∀ v ∈ vs, ∀ u ∈ vs, (k v).1 = (k u).1 → (k v).2 = (k u).2) (ha : ∀ o, s.heap.get? a = some o → o.cls ≠ .type "tuple") : SortableO prog w A s a vs fun v u => ltC (k v).1.cps.toList (k u).1.cps.toList := by
  intro h' keep
  have hp' : ∀ v ∈ vs, TxPair h' v (k v) := fun v hm => (hp v hm).keeps fun b o e c => keep b o (fun z => by subst z; exact ha o e c) e
  obtain ⟨fs, h1, h2, h3⟩ := tx_firsts hp'
  refine ⟨tuples' true, fun Q E hq => ?_, tx_cmp hp' hi⟩
  refine PySem.W.kat_kind (T := .type "str") h1 (by omega) (fun f hm => ?_) (by rfl) ?_
  · obtain ⟨x, t, rfl⟩ := h3 f hm
    exact PySem.W.Looks.now
  · have e : (Value.type "str" != Value.type "tuple") = true := by first | decide +kernel | rfl | decide
    rw [e]
    exact hq
end
/-! ### the function of a list of addresses -/
def kOf (as : List Addr) (ps : List (Str × Str)) (v : Value) : Str × Str := match v with
  | .ref a => ps.getD (as.idxOf a) (⟨#[]⟩, ⟨#[]⟩)
  | _ => (⟨#[]⟩, ⟨#[]⟩)
theorem kOf_at {as : List Addr} {ps : List (Str × Str)} (nd : as.Nodup) {j : Nat} {a : Addr} {p : Str × Str} (h : as[j]? = some a) (h2 : ps[j]? = some p) : kOf as ps (.ref a) = p := by
  obtain ⟨hj, e⟩ := List.getElem?_eq_some_iff.mp h
  show ps.getD (as.idxOf a) _ = p
  have e1 : as.idxOf a = j := by
    rw [← e]
    exact nd.idxOf_getElem j hj
  rw [e1, List.getD_eq_getElem?_getD, h2] <;> rfl

theorem pairs_at {prog : Program} {w : World} {knd : KeyKind prog w Key} : ∀ {es : List DictEntry} {kvs : List (Key × Value)}, PySem.Pairs knd es kvs → ∀ {j : Nat} {e : DictEntry}, es[j]? = some e → ∃ kv, kvs[j]? = some kv ∧ knd.is kv.1 e.key = true ∧ e.val = kv.2
  | _, _, .nil, j, e, h => by simp at h
  | _, _, .cons h1 h2 t, 0, e, h => by
    simp only [List.getElem?_cons_zero, Option.some.injEq] at h
    subst h
    exact ⟨_, rfl, h1, h2⟩
  | _, _, .cons h1 h2 t, j + 1, e, h => by
    simp only [List.getElem?_cons_succ] at h
    obtain ⟨kv, a, b⟩ := pairs_at t h
    exact ⟨kv, by simpa using a, b⟩
/-! ### the one sorted list -/
def sortM (ms : List (Str × Str)) : List (Str × Str) := ms.mergeSort fun p q => decide (p.1.cps.toList ≤ q.1.cps.toList)
abbrev ltM (p q : Str × Str) : Bool := ltC p.1.cps.toList q.1.cps.toList
theorem str_ext {x y : Str} (h : x.cps.toList = y.cps.toList) : x = y := by
  cases x
  cases y
  exact congrArg PySem.Str.mk (Array.toList_inj.mp h)
theorem eqvM {p q : Str × Str} (h : eqv ltM p q = true) : p.1 = q.1 := by
  obtain ⟨h1, h2⟩ := eqv_iff.mp h
  have a := List.not_lt.mp (of_decide_eq_false h1)
  have b := List.not_lt.mp (of_decide_eq_false h2)
  exact str_ext (List.le_antisymm b a)
theorem short_perm {α : Type} {l m : List α} (p : l.Perm m) (h : l.length ≤ 1) : l = m := by
  match l, h with
  | [], _ => exact (List.Perm.eq_nil p.symm).symm
  | [a], _ => exact (List.perm_singleton.mp p.symm).symm
theorem cls_short {ms : List (Str × Str)} (nd : (ms.map (·.1)).Nodup) (x : Str × Str) : (ms.filter (eqv ltM x)).length ≤ 1 := by
  induction ms with
  | nil => exact Nat.zero_le _
  | cons a l ih =>
    rw [List.map_cons] at nd
    obtain ⟨h1, h2⟩ := List.nodup_cons.mp nd
    rw [List.filter_cons]
    split
    · rename_i he
      have e : l.filter (eqv ltM x) = [] := List.filter_eq_nil_iff.mpr fun y hy z => h1 (by rw [← eqvM he, eqvM z]; exact List.mem_map.mpr ⟨y, hy, rfl⟩)
      rw [e]
      exact Nat.le_refl _
    · exact ih h2
theorem stb_nd {l m : List (Str × Str)} (p : l.Perm m) (nd : (l.map (·.1)).Nodup) : Stb ltM l m := ⟨p, fun x => short_perm (p.filter _) (cls_short nd x)⟩
theorem swoM : Swo ltM := swo_C fun p : Str × Str => p.1.cps.toList
theorem sortM_srtd (ms : List (Str × Str)) : Srtd ltM (sortM ms) := by
  have h : (sortM ms).Pairwise (fun p q => decide (p.1.cps.toList ≤ q.1.cps.toList) = true) := List.pairwise_mergeSort (fun a b c h1 h2 => by
    have a1 := of_decide_eq_true h1
    have a2 := of_decide_eq_true h2
    exact decide_eq_true (List.le_trans a1 a2)) (fun a b => by
    rcases List.le_total a.1.cps.toList b.1.cps.toList with h | h
    · rw [decide_eq_true h]; rfl
    · rw [decide_eq_true h, Bool.or_true]) ms
  exact h.imp fun h1 => decide_eq_false (List.not_lt.mpr (of_decide_eq_true h1))
theorem sortM_uniq {l ms : List (Str × Str)} (p : l.Perm ms) (nd : (ms.map (·.1)).Nodup) (h : Srtd ltM l) : l = sortM ms := by
  have p2 : (sortM ms).Perm ms := List.mergeSort_perm ..
  exact stb_uniq swoM h (sortM_srtd ms) (stb_nd (p.trans p2.symm) ((p.map (·.1)).nodup_iff.mpr nd))
/-! ### d.items() as a value, sorted -/
def rItemsK : V → List V → Hp → VK → Prop := fun x xs H Q => ∃ (a : Addr) (kvs : List (Key × V)), x = .ref a ∧ xs = [] ∧ H a = some (.dK kvs) ∧ ∀ p, H p = none → Q (.ref p) (upd H p (DX.itemsO p a))
theorem raw_of {X : Cx} {H : Hp} {h : Heap} {a : Addr} {kvs : List (Key × V)} (I : HOk X.prog X.w H h) (ha : H a = some (.dK kvs)) : kvs.length ≤ sizeLine ∧ (a == sysModules) = false ∧ ∃ vs es ep, KV kvs vs ∧ DT.Raw h a es ep ∧ PySem.Pairs (mixKind X.prog X.w) es.toList vs := by
  obtain ⟨z, hd, vs, rk, o, es, ep, ho, hx, hdat, _, hp, _⟩ := (show ObjOk X.prog X.w H h a (.dK kvs) from I a _ ha)
  exact ⟨z, hd, vs, es, ep, rk, ⟨o, ho, hx, hdat⟩, hp⟩
theorem mt_itemsK {X : Cx} : MtR X "dict.items" rItemsK := by
  intro pins s σ H x xs v us Q I rx rxs h
  obtain ⟨a, kvs, rfl, rfl, ha, q⟩ := h
  cases rx
  cases rxs
  obtain ⟨z, hd, vs, es, ep, rk, hr, _⟩ := raw_of I.hok ha
  refine DT.callItems (es := es) (ep := ep) hd hr ?_
  have hf : H s.heap.objs.size = none := I.hok.fresh (Nat.le_refl _)
  exact ⟨.ref s.heap.objs.size, upd H s.heap.objs.size (DX.itemsO s.heap.objs.size a), I.laid (t' := s.toks) (fun b u e => Heap.get?_push_of_some _ e) (Nat.le_refl _) (DX.itemsO_ok (Heap.get?_push_size _ rfl)), rfl, q _ hf⟩
def rSortK : List V → Hp → VK → Prop := fun vs H Q => ∃ p a ms, vs = [.ref p] ∧ H p = some (DX.itemsO p a) ∧ H a = some (.dK (kvM ms)) ∧ ms.length < 64 ∧ (ms.map (·.1)).Nodup ∧ ∀ l H' rs, Le H H' → H' l = some (.lst rs) → Paired (fun p v => PairAt H' v p) (sortM ms) rs → Q (.ref l) H'
theorem kvM_at {ms : List (Str × Str)} {j : Nat} {kv : Key × V} (h : (kvM ms)[j]? = some kv) : ∃ p, ms[j]? = some p ∧ kv = (Sum.inr p.1, V.str p.2) := by
  unfold kvM at h
  rw [List.getElem?_map] at h
  cases e : ms[j]? with
  | none => rw [e] at h; cases h
  | some p => rw [e] at h; exact ⟨p, rfl, (Option.some.inj h).symm⟩
theorem cr_sortK {X : Cx} (hc : X.calm = true) : CallR X (.builtin "sorted") rSortK := by
  intro pins s σ H xs us Q I r h
  obtain ⟨p, a, ms, rfl, hp, ha, h64, hnd, q⟩ := h
  obtain rfl := Vals.ref1 r
  have view : s.heap.IsItemsView p a := (show ObjOk X.prog X.w H s.heap p (DX.itemsO p a) from I.hok p _ hp).1
  obtain ⟨z, hd, vs', es, ep, rk, hraw, hpr⟩ := raw_of I.hok ha
  have l1 : (kvM ms).length = vs'.length := Paired.length rk
  have l0 : (kvM ms).length = ms.length := List.length_map ..
  have l2 : es.size = vs'.length := by rw [← Array.length_toList]; exact hpr.length
  have hh : X.A.handled = none := I.ok.hd hc
  refine DT.sortedI (es := es) (ep := ep) hh view hraw (by rw [sizeLine_eq]; omega) fun h' tk as hk hlt hl hG => ?_
  have lak : as.length = ms.length := by omega
  have nd : as.Nodup := List.Pairwise.imp (fun h => Nat.ne_of_lt h) hG.rise
  -- the pairs that were made
  have pr : ∀ (j : Nat) (b : Addr), as[j]? = some b → ∃ (e : Str × Str) (t u : Tok), ms[j]? = some e ∧ h'.get? b = some { cls := .type "tuple", data := .seq #[Value.str e.1 t, Value.str e.2 u] } := by
    intro j b hj
    obtain ⟨en, he, hg⟩ := hG.pairs j b hj
    rw [← Array.getElem?_toList] at he
    obtain ⟨kv, hkv, hik, hev⟩ := pairs_at hpr he
    obtain ⟨x, hx, e1, r1⟩ := DX.pget rk hkv
    obtain ⟨e, hme, rfl⟩ := kvM_at hx
    obtain ⟨kk, vv⟩ := kv
    have e1' : Sum.inr e.1 = kk := e1
    subst e1'
    have r1' : ∃ u, vv = Value.str e.2 u := r1
    obtain ⟨u, rfl⟩ := r1'
    rcases keyIs_shape (show keyIs (Sum.inr e.1) en.key = true from hik) with ⟨i, t, z1, _⟩ | ⟨y, t, z1, z2⟩
    · cases z1
    · cases z1
      exact ⟨e, t, u, hme, by rw [hg, z2, hev]⟩
  -- the heap of the sort
  have hob : (h'.push { cls := .type "list", data := .seq (as.map Value.ref).toArray }).get? h'.objs.size = some (seqObj "list" (as.map Value.ref).toArray 0) := Heap.get?_push_size _ rfl
  have kb : ∀ b o, s.heap.get? b = some o → (h'.push { cls := .type "list", data := .seq (as.map Value.ref).toArray }).get? b = some o := fun b o e => Heap.get?_push_of_some _ (hk b o e)
  have ne0 : ∀ b o, h'.get? b = some o → b ≠ h'.objs.size := fun b o e => Nat.ne_of_lt (Heap.lt_size e)
  generalize hh2 : h'.push { cls := .type "list", data := .seq (as.map Value.ref).toArray } = h2 at hob kb ⊢
  have ka : ∀ b o, h'.get? b = some o → h2.get? b = some o := fun b o e => by rw [← hh2]; exact Heap.get?_push_of_some _ e
  have kat : ∀ (j : Nat) (b : Addr) (e : Str × Str), as[j]? = some b → ms[j]? = some e → kOf as ms (.ref b) = e := fun j b e h1 h2 => kOf_at nd h1 h2
  have mem : ∀ v ∈ as.map Value.ref, ∃ (j : Nat) (b : Addr) (e : Str × Str), v = .ref b ∧ as[j]? = some b ∧ ms[j]? = some e := by
    intro v hv'
    obtain ⟨b, hb, rfl⟩ := List.mem_map.mp hv'
    obtain ⟨j, hj⟩ := List.mem_iff_getElem?.mp hb
    obtain ⟨e, _, _, he, _⟩ := pr j b hj
    exact ⟨j, b, e, rfl, hj, he⟩
  have tx : ∀ v ∈ as.map Value.ref, TxPair h2 v (kOf as ms v) := by
    intro v hv
    obtain ⟨j, b, e, rfl, hj, he⟩ := mem v hv
    obtain ⟨e', t, u, he', hg⟩ := pr j b hj
    rw [he] at he'
    cases he'
    rw [kat j b e hj he]
    exact ⟨b, _, t, u, 0, rfl, ka _ _ hg, rfl, rfl⟩
  have inj : ∀ v ∈ as.map Value.ref, ∀ u ∈ as.map Value.ref, (kOf as ms v).1 = (kOf as ms u).1 → (kOf as ms v).2 = (kOf as ms u).2 := by
    intro v hv u hu
    obtain ⟨j, b, e, rfl, hj, he⟩ := mem v hv
    obtain ⟨j2, b2, e2, rfl, hj2, he2⟩ := mem u hu
    rw [kat j b e hj he, kat j2 b2 e2 hj2 he2]
    intro z
    have h1 : (ms.map (·.1))[j]? = some e.1 := by rw [List.getElem?_map, he]; rfl
    have h2 : (ms.map (·.1))[j2]? = some e2.1 := by rw [List.getElem?_map, he2]; rfl
    have hj3 := (List.getElem?_inj (List.getElem?_eq_some_iff.mp h1).1 hnd).mp (h1.trans (by rw [z]; exact h2.symm))
    rw [hj3, he2] at he
    rw [Option.some.inj he]
  have vsk : (as.map Value.ref).map (kOf as ms) = ms := by
    apply List.ext_getElem
    · rw [List.length_map, List.length_map]; exact lak
    · intro i h1 h2
      rw [List.getElem_map, List.getElem_map]
      have hia : i < as.length := by rw [List.length_map, List.length_map] at h1; exact h1
      exact kat i _ _ (List.getElem?_eq_getElem hia) (List.getElem?_eq_getElem h2)
  have lenz : (as.map Value.ref).length ≤ sizeLine := by rw [List.length_map, sizeLine_eq]; omega
  refine wpAny_call_entry PyProof.Rows.slot_list_sort ⟨_, hob, rfl⟩ PyProof.Rows.entry_list_sort
    (list_sort_ord (s := { s with heap := h2, toks := tk }) (swo_C fun v => (kOf as ms v).1.cps.toList) hob lenz (fun h2l => tx_sortable (s := { s with heap := h2, toks := tk }) (by omega) tx inj fun o ho c => ?_) fun out o1 o2 => ⟨.none, rfl, ?_⟩) (PyProof.Rows.args_list_sort _)
  · have e' : some o = some (seqObj "list" (as.map Value.ref).toArray 0) := ho.symm.trans hob
    cases e'
    exact absurd (Value.type.inj c) (by decide)
  · show EP X pins σ Q (.ref h'.objs.size) { s with heap := sortedHeap h2 h'.objs.size (as.map Value.ref) out.toArray, toks := tk }
    -- the addresses in order
    have hout : ∃ zs : List Addr, out = zs.map Value.ref ∧ zs.Perm as := by
      refine ⟨out.map fun v => match v with | .ref b => b | _ => 0, ?_, ?_⟩
      · have e0 : out.map (fun v => Value.ref (match v with | .ref b => b | _ => 0)) = out.map id := List.map_congr_left fun v hv => by
          obtain ⟨b, _, rfl⟩ := List.mem_map.mp (o2.perm.mem_iff.mp hv)
          rfl
        rw [List.map_map]
        exact ((e0.trans (List.map_id _)).symm)
      · have e := o2.perm.map fun v => match v with | .ref b => b | _ => 0
        have e2 : (as.map Value.ref).map (fun v => match v with | .ref b => b | _ => 0) = as := by
          rw [List.map_map]
          exact List.map_id _
        rw [e2] at e
        exact e
    obtain ⟨zs, rfl, pz⟩ := hout
    have hsrt : (zs.map fun b => kOf as ms (.ref b)) = sortM ms := by
      have e1 : (zs.map Value.ref).map (kOf as ms) = zs.map fun b => kOf as ms (.ref b) := by rw [List.map_map]; rfl
      rw [← e1]
      refine sortM_uniq ?_ hnd (srtd_map o1)
      have e := o2.perm.map (kOf as ms)
      rw [vsk] at e
      exact e
    have kF : ∀ b o, b ≠ h'.objs.size → h2.get? b = some o → (sortedHeap h2 h'.objs.size (as.map Value.ref) (zs.map Value.ref).toArray).get? b = some o := fun b o hb e => (PyProof.Rows.sortedHeap_old hb (Heap.lt_size e)).trans e
    have kS : ∀ b o, s.heap.get? b = some o → (sortedHeap h2 h'.objs.size (as.map Value.ref) (zs.map Value.ref).toArray).get? b = some o := fun b o e => kF b o (ne0 _ _ (hk b o e)) (kb b o e)
    obtain ⟨eF, heF⟩ := PyProof.Rows.sortedHeap_at (vs := as.map Value.ref) (out := (zs.map Value.ref).toArray) hob
    have I1 : Inv X pins σ H { s with heap := sortedHeap h2 h'.objs.size (as.map Value.ref) (zs.map Value.ref).toArray, toks := tk } := I.kept (t' := tk) kS
    have hn0 : H h'.objs.size = none := I.hok.fresh (Nat.le_of_lt hlt)
    have hlen : (zs.map V.ref).length ≤ sizeLine := by
      rw [List.length_map, pz.length_eq, sizeLine_eq]
      omega
    have rv : Vals (zs.map V.ref) (zs.map Value.ref) := LiI.vals_refs zs
    have I2 : Inv X pins σ (upd H h'.objs.size (.lst (zs.map V.ref))) { s with heap := sortedHeap h2 h'.objs.size (as.map Value.ref) (zs.map Value.ref).toArray, toks := tk } :=
      I1.take (h' := sortedHeap h2 h'.objs.size (as.map Value.ref) (zs.map Value.ref).toArray) (t' := tk) (fun b ob _ e => e) (I.fpOk (Nat.le_of_lt hlt) hn0) ⟨hlen, zs.map Value.ref, eF, rv, heF⟩
    obtain ⟨H2, I3, g, qt⟩ := DX.takeT (P := fun b vs => ∃ (j : Nat) (e : Str × Str), as[j]? = some b ∧ ms[j]? = some e ∧ vs = [.str e.1, .str e.2]) I as _ I2 nd fun b hb => by
      obtain ⟨j, hj⟩ := List.mem_iff_getElem?.mp hb
      obtain ⟨e, t, u, he, hg⟩ := pr j b hj
      have hbl : s.heap.objs.size ≤ b := Nat.le_of_lt (hG.above b hb)
      refine ⟨hbl, ?_, [.str e.1, .str e.2], ⟨j, e, hj, he, rfl⟩, fun H3 => ⟨(by rw [sizeLine_eq]; show 2 ≤ 16777216; omega), [Value.str e.1 t, Value.str e.2 u], .cons ⟨t, rfl⟩ (.cons ⟨u, rfl⟩ .nil), ⟨_, kF _ _ (ne0 _ _ hg) (ka _ _ hg), rfl, 0, rfl⟩⟩⟩
      rw [upd_ne (ne0 _ _ hg)]
      exact I.hok.fresh hbl
    have gr : ∀ b o, H b = some o → H2 b = some o := fun b o e => g b o (by rw [upd_ne (ne_of_none e hn0)]; exact e)
    refine ⟨.ref h'.objs.size, H2, I3, rfl, q h'.objs.size H2 (zs.map V.ref) ⟨fun b o e _ => gr b o e, fun t => t.ext gr⟩ (g _ _ upd_same) ?_⟩
    rw [← hsrt]
    have go : ∀ l : List Addr, (∀ b ∈ l, b ∈ as) → Paired (fun p v => PairAt H2 v p) (l.map fun b => kOf as ms (.ref b)) (l.map V.ref) := by
      intro l
      induction l with
      | nil => intro _; exact .nil
      | cons b l ih =>
        intro hl
        refine .cons ?_ (ih fun c hc => hl c (List.mem_cons_of_mem _ hc))
        obtain ⟨vs, ⟨j, e, j1, j2, ev⟩, hH⟩ := qt b (hl b List.mem_cons_self)
        show PairAt H2 (V.ref b) (kOf as ms (.ref b))
        rw [kat j b e j1 j2]
        rw [ev] at hH
        exact ⟨b, rfl, hH⟩
    exact go zs fun b hb => pz.mem_iff.mp hb
end Sw
set_option linter.all false
set_option maxRecDepth 100000
set_option maxHeartbeats 2000000
/-! Own rules, second part. -/
namespace Sw
open PySem PySem.Spec PyProof.Rows L2 LamX
/-! ### a property -/
structure CalP (P : Program) (w : World) (K : PySem.W.Frag) (mg : Str → Option Value) (base : Heap) (C : Addr) (x : Str) (k : Nat) (ps : List Str) (sp : Sp) : Prop where
  ex : ∃ f fd p, FnOk P w K mg base CX0 k f fd ps sp ∧ PropOf K C x p f ∧ Cls K C ∧ Binds K fd ps []
theorem ppr {X : Cx} {C : Addr} {x : Str} {k : Nat} {ps : List Str} {sp : Sp} {e : Expr} {ta : TE} {pos : Pos} (F : CalP X.prog X.w X.K X.mg X.base C x k ps sp) (hr : Room (k + 1) X.A) (he : PE X e ta) (hab : attributeBase e x X.env (eval e X.env) = eval e X.env) : PE X (.Attribute e x pos) (tProp C sp [] E0 ta) := by
  obtain ⟨f, fd, p, F, pr, c, b⟩ := F.ex
  exact pe_prop he c pr F hr b .nil pass0 hab
theorem wzip (K : PySem.W.Frag) {X : Cx} {elts : List Expr} {kk : Nat} {tpos p pos : Pos} {e e2 : Expr} {ta : TA} (hg : Gl X "zip") (hm : X.mg "zip" = none) (ha : PA X [e, e2] ta)
    (hs : starEach [e, e2] X.env = (false, eval e X.env) :: starEach [e2] X.env := by rfl) (hpl : (backTo pos (starEach [e2] X.env)).any (·.1) = false := by rfl) (hK : X.K = K := by rfl) : PI X (.Tuple elts kk tpos) (.Call (.Name "zip" p) [e, e2] [] pos) (RZ.iZipA K ta) := by
  subst hK; exact RZ.pi_zipA hg hm ha hs hpl
/-! ### tuple(d) -/
def rTupD : List V → Hp → VK → Prop := fun xs H Q => ∃ p kvs, xs = [.ref p] ∧ H p = some (.dK kvs) ∧ ∀ q, H q = none → Q (.ref q) (upd H q (.tup (kvs.map fun kv => kV kv.1)))
theorem call_tuple_dK {X : Cx} (hc : X.calm = true) : CallR X (.type "tuple") rTupD := by
  intro pins s σ H xs us Q I r h
  obtain ⟨p, kvs, e, hk, q⟩ := h
  subst e
  obtain ⟨u, eu, rx⟩ := vals1 r
  subst eu
  obtain rfl : u = Value.ref p := rx
  obtain ⟨z, lo, vs, rk, hd⟩ := (show ObjOk X.prog X.w H s.heap p (.dK kvs) from I.hok p _ hk)
  obtain ⟨ep, hat⟩ := hd.dictAt
  have hl : kvs.length = vs.length := Paired.length rk
  refine PySem.sw_call_tuple (PySem.W.kdl_dict (knd := mixKind X.prog X.w) (kvs := vs) (ep := ep) lo) (I.ok.hd hc) hat (fun h' tk acc' hkeep hacc => ?_) (by rw [← hl]; exact z)
  have I1 : Inv X pins σ H { s with heap := h', toks := tk } := I.kept hkeep
  refine ⟨.ref h'.objs.size, upd H h'.objs.size (.tup (kvs.map fun kv => kV kv.1)), I1.laid (t' := tk) (fun b o e => Heap.get?_push_of_some _ e) (Nat.le_refl _) (show ObjOk X.prog X.w _ _ _ (.tup (kvs.map fun kv => kV kv.1)) from ⟨?_, acc'.toList, ?_, ?_⟩), rfl, q _ (I1.hok.fresh (Nat.le_refl _))⟩
  · rw [List.length_map]; exact z
  · have el : acc'.toList.length = acc'.size := by simp
    refine vals_of_at (by rw [List.length_map, el, hacc.1, hl]) fun j x w h1 h2 => ?_
    obtain ⟨k, y, hky, hi⟩ := hacc.2 j w (by rw [← Array.getElem?_toList]; exact h2)
    have e1 : (kvs.map (·.1))[j]? = some k := by
      rw [KV.keys rk, List.getElem?_map, hky] <;> rfl
    have e2 : (kvs.map fun kv => kV kv.1)[j]? = some (kV k) := by
      have e3 : (kvs.map fun kv => kV kv.1) = (kvs.map (·.1)).map kV := by rw [List.map_map] <;> rfl
      rw [e3, List.getElem?_map, e1] <;> rfl
    rw [e2] at h1
    cases h1
    exact keyIs_rel hi
  · rw [Array.toArray_toList]
    exact ⟨_, Heap.get?_push_size _ rfl, rfl, _, rfl⟩
/-! ### sorted(d.items()), d a dict of texts by texts -/
abbrev tSortIt (K : PySem.W.Frag) (td : TE) : TE := tCB rSortK (tCons (tBM0 K "dict" rItemsK td) tNil)
theorem pe_sortItems {X : Cx} {o : Expr} {td : TE} {p pos cp : Pos} {ap : Pos} (hg : Gl X "sorted") (hm : X.mg "sorted" = none) (ho : PE X o td) (hc : X.calm = true := by rfl)
    (hbase : attributeBase o "items" X.env (eval o X.env) = eval o X.env := by rfl) (hline : (ap.endLine == cp.line) = true := by rfl)
    (he : starEach [.Call (.Attribute o "items" ap) [] [] cp] X.env = (false, eval (.Call (.Attribute o "items" ap) [] [] cp) X.env) :: starEach [] X.env := by rfl) (hpl : (backTo pos (starEach [] X.env)).any (·.1) = false := by rfl) :
    PE X (.Call (.Name "sorted" p) [.Call (.Attribute o "items" ap) [] [] cp] [] pos) (tSortIt X.K td) :=
  pe_callB (cr_sortK hc) hg hm bb_sorted (pa_cons (pe_bm0 PySem.F.plainAttrs_dict PySem.F.slot_dict_items PySem.F.type_dict_items mt_itemsK ho hbase hline) pa_nil he) (by decide) (by decide) he hpl
end Sw
set_option linter.all false
set_option maxRecDepth 100000
set_option maxHeartbeats 4000000
/-! SwF11: pictures, worlds that are alike. Terms printed by gen_term.py. -/
namespace Sw
open PySem PySem.Spec PyProof.Rows L2 LamX
section
variable {P : Program} {w : World} {K : PySem.W.Frag} {mg : Str → Option Value} {base : Heap}


/-! ### pictures as data -/
def dS (l : List Str) : List PyData := l.map PyData.str
def dC (c : List Str × Bool) : PyData := .tuple [.tuple (dS c.1), .bool c.2]
def dH (h : Option Hook) (ps : Bool) : PyData := match h with
  | none => .none
  | some h => .tuple [.tuple (h.map dC), .bool ps]
def Tb.picD (U : Tb) (n : Str) : PyData := .tuple [.str n, .tuple (dS (U.cl n).par), .bool (U.sworn n), .list ((sortM (U.cl n).marks).map dP), dH (U.cl n).hook (U.cl n).passed]
theorem dpAll_S {H : Hp} : ∀ {l : List Str}, DpAll K H (vS l) (dS l)
  | [] => .nil
  | _ :: _ => .cons (.str _) dpAll_S
theorem dp_C {H : Hp} {v : V} {c : List Str × Bool} (h : ClauseAt H v c) : Dp K H v (dC c) := by
  obtain ⟨a, m, rfl, h1, h2⟩ := h
  exact .tup (SqT.of h1) (.cons (.tup (SqT.of h2) dpAll_S) (.cons (.bl _) .nil))
theorem dpAll_C {H : Hp} : ∀ {vs : List V} {h : Hook}, Paired (ClauseAt H) vs h → DpAll K H vs (h.map dC)
  | _, _, .nil => .nil
  | _, _, .cons h t => .cons (dp_C h) (dpAll_C t)
theorem dp_HK {H : Hp} {v : V} {h : Hook} (a : HookAt H v h) : Dp K H v (.tuple (h.map dC)) := by
  obtain ⟨p, vs, rfl, h1, h2⟩ := a
  exact .tup (SqT.of h1) (dpAll_C h2)
mutual
theorem dp_mono {H H' : Hp} (e : Le H H') : ∀ {v : V} {d : PyData}, Dp K H v d → Dp K H' v d
  | _, _, .non => .non
  | _, _, .bl b => .bl b
  | _, _, .int i => .int i
  | _, _, .str x => .str x
  | _, _, .lst h a => .lst (e.sl h) (dpAll_mono e a)
  | _, _, .tup h a => .tup (e.st h) (dpAll_mono e a)
theorem dpAll_mono {H H' : Hp} (e : Le H H') : ∀ {v : List V} {d : List PyData}, DpAll K H v d → DpAll K H' v d
  | _, _, .nil => .nil
  | _, _, .cons h t => .cons (dp_mono e h) (dpAll_mono e t)
end
theorem meth_ok {x : Str} (h : x ∈ Tb.METHS) : PyData.strOk x = true := by
  have q : Tb.METHS.all PyData.strOk = true := by decide +kernel
  exact List.all_eq_true.mp q x h
theorem mrk_ok {x : Str} (h : x ∈ Tb.MRKS) : PyData.strOk x = true := by
  have q : Tb.MRKS.all PyData.strOk = true := by decide +kernel
  exact List.all_eq_true.mp q x h
theorem lay_S : ∀ {l : List Str}, (∀ x ∈ l, PyData.strOk x = true) → PyData.canLayAll0 (dS l) = true ∧ PyData.depthAll (dS l) = 0
  | [], _ => ⟨rfl, rfl⟩
  | x :: l, h => by
    obtain ⟨h1, h2⟩ := lay_S fun y hy => h y (List.mem_cons_of_mem _ hy)
    refine ⟨?_, ?_⟩
    · show (PyData.strOk x && PyData.canLayAll0 (dS l)) = true
      rw [h x List.mem_cons_self, h1]; rfl
    · show max 0 (PyData.depthAll (dS l)) = 0
      rw [h2]; rfl
theorem lay_C {c : List Str × Bool} (h : ∀ x ∈ c.1, PyData.strOk x = true) : PyData.canLay0 (dC c) = true ∧ PyData.depth (dC c) = 2 := by
  obtain ⟨h1, h2⟩ := lay_S h
  refine ⟨?_, ?_⟩
  · show (PyData.canLayAll0 (dS c.1) && (true && true)) = true
    rw [h1]; rfl
  · show max (PyData.depthAll (dS c.1) + 1) (max 0 0) + 1 = 2
    rw [h2]; rfl
theorem lay_Cs : ∀ {h : Hook}, (∀ c ∈ h, ∀ x ∈ c.1, PyData.strOk x = true) → PyData.canLayAll0 (h.map dC) = true ∧ PyData.depthAll (h.map dC) ≤ 2
  | [], _ => ⟨rfl, Nat.zero_le _⟩
  | c :: l, h => by
    obtain ⟨h1, h2⟩ := lay_Cs fun y hy => h y (List.mem_cons_of_mem _ hy)
    obtain ⟨q1, q2⟩ := lay_C (h c List.mem_cons_self)
    rw [List.map_cons]
    refine ⟨?_, ?_⟩
    · show (PyData.canLay0 (dC c) && PyData.canLayAll0 (l.map dC)) = true
      rw [q1, h1]; rfl
    · show max (PyData.depth (dC c)) (PyData.depthAll (l.map dC)) ≤ 2
      rw [q2]; omega
theorem lay_Ms : ∀ {ms : List (Str × Str)}, (∀ p ∈ ms, PyData.strOk p.1 = true ∧ PyData.strOk p.2 = true) → PyData.canLayAll0 (ms.map dP) = true ∧ PyData.depthAll (ms.map dP) ≤ 1
  | [], _ => ⟨rfl, Nat.zero_le _⟩
  | p :: l, h => by
    obtain ⟨h1, h2⟩ := lay_Ms fun y hy => h y (List.mem_cons_of_mem _ hy)
    obtain ⟨q1, q2⟩ := h p List.mem_cons_self
    rw [List.map_cons]
    refine ⟨?_, ?_⟩
    · show ((PyData.strOk p.1 && (PyData.strOk p.2 && true)) && PyData.canLayAll0 (l.map dP)) = true
      rw [q1, q2, h1]; rfl
    · show max (max 0 (max 0 0) + 1) (PyData.depthAll (l.map dP)) ≤ 1
      omega
theorem sortM_perm (ms : List (Str × Str)) : (sortM ms).Perm ms := List.mergeSort_perm ..
theorem Tb.Ok.pic_sh {U : Tb} (ok : U.Ok) {n : Str} (hn : n ∈ U.names) : SeqAt.shaped (U.picD n) = true := by
  obtain ⟨p1, p2⟩ := lay_S (l := (U.cl n).par) fun x hx => nm_ok (ok.nms x (ok.pin n hn x hx))
  obtain ⟨m1, m2⟩ := lay_Ms (ms := sortM (U.cl n).marks) fun p hp => by
    obtain ⟨a, b⟩ := ok.mrk n hn p ((sortM_perm _).mem_iff.mp hp)
    exact ⟨meth_ok a, mrk_ok b⟩
  have hk : PyData.canLay0 (dH (U.cl n).hook (U.cl n).passed) = true ∧ PyData.depth (dH (U.cl n).hook (U.cl n).passed) ≤ 4 := by
    cases hh : (U.cl n).hook with
    | none => exact ⟨rfl, Nat.zero_le _⟩
    | some h =>
      obtain ⟨a, b⟩ := lay_Cs (h := h) fun c hc x hx => meth_ok (ok.mth n hn h hh c hc x hx)
      refine ⟨?_, ?_⟩
      · show (PyData.canLayAll0 (h.map dC) && (true && true)) = true
        rw [a]; rfl
      · show max (PyData.depthAll (h.map dC) + 1) (max 0 0) + 1 ≤ 4
        omega
  unfold SeqAt.shaped
  have e1 : PyData.canLay0 (U.picD n) = true := by
    show (PyData.strOk n && (PyData.canLayAll0 (dS (U.cl n).par) && (true && (PyData.canLayAll0 ((sortM (U.cl n).marks).map dP) && (PyData.canLay0 (dH (U.cl n).hook (U.cl n).passed) && true))))) = true
    rw [nm_ok (ok.nms n hn), p1, m1, hk.1]; rfl
  rw [e1, Bool.true_and, decide_eq_true_eq]
  show max 0 (max (PyData.depthAll (dS (U.cl n).par) + 1) (max 0 (max (PyData.depthAll ((sortM (U.cl n).marks).map dP) + 1) (max (PyData.depth (dH (U.cl n).hook (U.cl n).passed)) 0)))) + 1 ≤ 64
  rw [p2]
  omega
theorem Tb.Ok.mrk_len {U : Tb} (ok : U.Ok) {n : Str} (hn : n ∈ U.names) : (U.cl n).marks.length < 64 := by
  have h := length_le_of_nodup_of_subset _ Tb.METHS (ok.mkd n hn) fun m hm => by
    obtain ⟨p, hp, rfl⟩ := List.mem_map.mp hm
    exact (ok.mrk n hn p hp).1
  rw [List.length_map] at h
  exact Nat.lt_of_le_of_lt h (by decide)
def spPic (K : PySem.W.Frag) : Sp := fun vs H Q _ => ∃ w U n, vs = [.ref w, .str n] ∧ WorldAt H w U ∧ U.Ok ∧ n ∈ U.names ∧ ∀ v H', Le H H' → Dp K H' v (U.picD n) → Q v H'
def spNames : Sp := fun vs H Q _ => ∃ w U, vs = [.ref w] ∧ WorldAt H w U ∧ ∀ p H', Le H H' → H' p = some (.tup (vS U.names)) → Q (.ref p) H'
theorem fsW_no_pic {t ca vi th ch : Addr} : (fsW t ca vi th ch).lookup ("class_picture" : Str) = none := by kernel_rfl

theorem sc_World_names : FnScope ["self"] ["self"] (defScope s_World_names) := ⟨rfl, rfl, rfl, by decide +kernel, rfl, by decide +kernel, by decide +kernel⟩
theorem ok_World_names (T : Tx K mg)  : CalP P w K mg base cWorld "names" 1 ["self"] spNames := by
  obtain ⟨fd, F⟩ := T.fn _ fi_World_names
  have G : FnOk P w K mg base CX0 1 d_World_names.f fd ["self"] spNames := by
    refine F.ok sc_World_names (fun vs H Q E h => ?_) (fun cdv A outer s H vs Q E hr h => ⟨_, PSs.nox (X := cxOf CX0 P w K mg base _ _ _ _ cdv A outer s H E) ((pss_one (ps_ret (pe_callTy (call_tuple_dK rfl) (by rfl) T.f_tuple bb_tuple (pa_cons (wfld K (wfld K (pv 0) rfl) rfl) pa_nil))))), ?_⟩)
    · obtain ⟨_, _, rfl, _⟩ := h
      rfl
    · obtain ⟨w, U, rfl, ⟨dxw, t, ca, vi, th, ch, hw, R⟩, k⟩ := h
      obtain ⟨dx, r, nb, l, mk, ht, ⟨ad, hr0, hE⟩, _, _⟩ := R.ex
      refine ⟨_, rfl, _, cWorld, dxw, _, _, rfl, hw, T.cl_World, T.n_World_table, fsW_table, _, cTable, dx, _, _, rfl, ht, T.cl_Table, T.n_Table_records, fsT_records, r, _, rfl, hr0, fun p hp => ?_⟩
      exact k p _ (Le.new hp) (by rw [upd_same, kvR_keys])
  exact ⟨⟨_, fd, _, G, T.names, T.cl_World, F.bindsN (ps := ["self"]) fun _ _ _ _ _ _ us hl => match us, hl with | [_], _ => rfl⟩⟩

theorem sc_World_class_picture : FnScope ["self", "name", "entry", "hook"] ["self", "name"] (defScope s_World_class_picture) := ⟨rfl, rfl, rfl, by decide +kernel, rfl, by decide +kernel, by decide +kernel⟩
theorem ok_World_class_picture (T : Tx K mg) (c_Table_sworn : CalM P w K mg base cTable "sworn" 2 ["self", "name"] spTSworn) : CalM P w K mg base cWorld "class_picture" 3 ["self", "name"] (spPic K) := by
  obtain ⟨fd, F⟩ := T.fn _ fi_World_class_picture
  have G : FnOk P w K mg base CX0 3 d_World_class_picture.f fd ["self", "name"] (spPic K) := by
    refine F.ok sc_World_class_picture (fun vs H Q E h => ?_) (fun cdv A outer s H vs Q E hr h => ⟨_, PSs.nox (X := cxOf CX0 P w K mg base _ _ _ _ cdv A outer s H E) ((pss_cons (ps_set (i := 2) sc_World_class_picture.nd rfl (Or.inl rfl) (pe_dget (hu_of hr) (wfld K (wfld K (pv 0) rfl) rfl) (pv 1) (fun _ _ => rfl)))
    (pss_cons (ps_set (i := 3) sc_World_class_picture.nd rfl (Or.inl rfl) (pe_ifExp (pt_cmpR op_isN (wfld K (pv 2) rfl) pe_non (nomark _)) pe_non (pe_tup (pa_cons (wfld K (pv 2) rfl) (pa_cons (wfld K (pv 2) rfl) pa_nil)))))
    (pss_one (ps_ret (pe_tup (pa_cons (pv 1) (pa_cons (wfld K (pv 2) rfl) (pa_cons (pm c_Table_sworn hr (wfld K (pv 0) rfl) (pa_cons (pv 1) pa_nil)) (pa_cons (pe_sortItems (by rfl) T.f_sorted (wfld K (pv 2) rfl)) (pa_cons (pv 3) pa_nil))))))))))), ?_⟩)
    · obtain ⟨_, _, _, rfl, _⟩ := h
      rfl
    · obtain ⟨w, U, n, rfl, ⟨dxw, t, ca, vi, th, ch, hw, R⟩, ok, hn, k⟩ := h
      obtain ⟨dx, r, nb, l, mk, ht, ⟨ad, hr0, hE⟩, _, _⟩ := R.ex
      obtain ⟨dx2, tp, mk2, hv, ln, he, htp, hmk, hhv, hln⟩ := (hE n hn).ex
      refine ⟨_, rfl, _, cWorld, dxw, _, _, rfl, hw, T.cl_World, T.n_World_table, fsW_table, _, cTable, dx, _, _, rfl, ht, T.cl_Table, T.n_Table_records, fsT_records, _, rfl, r, _, rfl, dget_kv (.inl hr0) hn, ?_⟩
      show gName 2 _ _ _ _
      refine ⟨_, rfl, _, cEntry, dx2, _, _, rfl, he, T.cl_Entry, T.n_Entry_own_hook, fsE_hook, rfl, ?_⟩
      cases hq : (U.cl n).hook with
      | none =>
        rw [hq] at hhv
        cases hhv
        have e := Le.refl H
        have hd : Dp K H V.non (dH (U.cl n).hook (U.cl n).passed) := by rw [hq]; exact .non
        refine ⟨_, rfl, iteT ?_⟩
        show gName 3 _ _ _ _
        refine ⟨_, rfl, _, rfl, _, cEntry, dx2, _, _, rfl, e.at he, T.cl_Entry, T.n_Entry_parents, fsE_parents, _, rfl, _, cWorld, dxw, _, _, rfl, e.at hw, T.cl_World, T.n_World_table, fsW_table, t, dx, _, rfl, e.at ht, fsT_no_sworn, _, rfl, t, U, n, rfl, R.mono e, ok, hn, fun H2 e2 => ?_⟩
        have e02 := e.trans e2
        refine ⟨_, rfl, _, cEntry, dx2, _, _, rfl, e02.at he, T.cl_Entry, T.n_Entry_given_marks, fsE_marks, .inr (.inr (.inl ⟨rfl, .inl ⟨_, e02.at hmk⟩⟩)), mk2, _, rfl, rfl, e02.at hmk, fun pv hpv => ⟨pv, mk2, _, rfl, upd_same, (Le.new hpv).at (e02.at hmk), ok.mrk_len hn, ok.mkd n hn, fun l3 H3 rs e3' hl3 hp3 => ?_⟩⟩
        have e3 := (Le.new hpv).trans e3'
        have e03 := e02.trans e3
        refine ⟨_, rfl, (by decide : 5 ≤ sizeLine), fun p hp => ?_⟩
        have e4 := Le.new (o := .tup [.str n, .ref tp, .bl (U.sworn n), .ref l3, V.non]) hp
        refine k _ _ (e03.trans e4) (.tup (SqT.of upd_same) (.cons (.str n) (.cons (.tup (SqT.of ((e03.trans e4).at htp)) dpAll_S) (.cons (.bl _) (.cons (.lst (SqL.of (e4.at hl3)) (dpAll_P (Paired.mapP hp3 fun _ _ q => q.mono e4))) (.cons (dp_mono ((e2.trans e3).trans e4) hd) .nil))))))
      | some hk =>
        rw [hq] at hhv
        have hn2 : decide (hv = V.non) = false := by
          obtain ⟨a, _, rfl, _⟩ := hhv
          rfl
        rw [hn2]
        refine ⟨_, rfl, iteF ⟨_, rfl, _, cEntry, dx2, _, _, rfl, he, T.cl_Entry, T.n_Entry_own_hook, fsE_hook, _, rfl, _, cEntry, dx2, _, _, rfl, he, T.cl_Entry, T.n_Entry_passed_on, fsE_passed, (by decide : 2 ≤ sizeLine), fun p0 hp0 => ?_⟩⟩
        have e := Le.new (o := .tup [hv, .bl (U.cl n).passed]) hp0
        have hd : Dp K (upd H p0 (.tup [hv, .bl (U.cl n).passed])) (.ref p0) (dH (U.cl n).hook (U.cl n).passed) := by
          rw [hq]
          exact .tup (SqT.of upd_same) (.cons (dp_mono e (dp_HK hhv)) (.cons (.bl _) .nil))
        show gName 3 _ _ _ _
        refine ⟨_, rfl, _, rfl, _, cEntry, dx2, _, _, rfl, e.at he, T.cl_Entry, T.n_Entry_parents, fsE_parents, _, rfl, _, cWorld, dxw, _, _, rfl, e.at hw, T.cl_World, T.n_World_table, fsW_table, t, dx, _, rfl, e.at ht, fsT_no_sworn, _, rfl, t, U, n, rfl, R.mono e, ok, hn, fun H2 e2 => ?_⟩
        have e02 := e.trans e2
        refine ⟨_, rfl, _, cEntry, dx2, _, _, rfl, e02.at he, T.cl_Entry, T.n_Entry_given_marks, fsE_marks, .inr (.inr (.inl ⟨rfl, .inl ⟨_, e02.at hmk⟩⟩)), mk2, _, rfl, rfl, e02.at hmk, fun pv hpv => ⟨pv, mk2, _, rfl, upd_same, (Le.new hpv).at (e02.at hmk), ok.mrk_len hn, ok.mkd n hn, fun l3 H3 rs e3' hl3 hp3 => ?_⟩⟩
        have e3 := (Le.new hpv).trans e3'
        have e03 := e02.trans e3
        refine ⟨_, rfl, (by decide : 5 ≤ sizeLine), fun p hp => ?_⟩
        have e4 := Le.new (o := .tup [.str n, .ref tp, .bl (U.sworn n), .ref l3, .ref p0]) hp
        refine k _ _ (e03.trans e4) (.tup (SqT.of upd_same) (.cons (.str n) (.cons (.tup (SqT.of ((e03.trans e4).at htp)) dpAll_S) (.cons (.bl _) (.cons (.lst (SqL.of (e4.at hl3)) (dpAll_P (Paired.mapP hp3 fun _ _ q => q.mono e4))) (.cons (dp_mono ((e2.trans e3).trans e4) hd) .nil))))))
  exact ⟨⟨_, fd, G, T.m_World_class_picture, T.cl_World, F.bindsN (ps := ["self", "name"]) fun _ _ _ _ _ _ us hl => match us, hl with | [_, _], _ => rfl⟩⟩

end
end Sw
set_option linter.all false
set_option maxRecDepth 100000
set_option maxHeartbeats 4000000
/-! SwF12: worlds that are alike. Terms printed by gen_term.py. -/
namespace Sw
open PySem PySem.Spec PyProof.Rows L2 LamX
section
variable {P : Program} {w : World} {K : PySem.W.Frag} {mg : Str → Option Value} {base : Heap}


structure SameCl (U1 U2 : Tb) : Prop where
  nm : U1.names = U2.names
  cl : ∀ n ∈ U1.names, U1.cl n = U2.cl n
theorem SameCl.sworn {U1 U2 : Tb} (s : SameCl U1 U2) (ok : U1.Ok) {n : Str} (hn : n ∈ U1.names) : U1.sworn n = U2.sworn n := by
  unfold Tb.sworn
  rw [← s.cl n hn]
  exact Bool.eq_iff_iff.mpr (by
    rw [List.any_eq_true, List.any_eq_true]
    exact ⟨fun ⟨x, a, b⟩ => ⟨x, a, by rw [← s.cl x (ok.line n hn x a)]; exact b⟩, fun ⟨x, a, b⟩ => ⟨x, a, by rw [s.cl x (ok.line n hn x a)]; exact b⟩⟩)
theorem SameCl.pic {U1 U2 : Tb} (s : SameCl U1 U2) (ok : U1.Ok) {n : Str} (hn : n ∈ U1.names) : U1.picD n = U2.picD n := by
  unfold Tb.picD
  rw [s.cl n hn, s.sworn ok hn]
theorem state_dp {H : Hp} {v1 v2 : V} {U1 U2 : Tb} {c d : Str} {ps : List (List Str)} (h1 : StateAt H v1 U1 c d ps) (h2 : StateAt H v2 U2 c d ps) : ∃ e f, Dp K H v1 e ∧ Dp K H v2 f ∧ SeqAt.shaped e = true ∧ SeqAt.shaped f = true ∧ (PyData.eqv e f = true ↔ SameSt U1 U2 c d ps) := by
  obtain ⟨e, f, a, b, c1, d1, r, q1, q2⟩ := state_eq (K := K) (Q := fun v _ => ∃ r : Bool, v = .bl r ∧ (r = true ↔ SameSt U1 U2 c d ps)) h1 h2 fun r hr => ⟨r, rfl, hr⟩
  exact ⟨e, f, a, b, c1, d1, by rw [V.bl.inj q1]; exact q2⟩
theorem rsl_end {a : Addr} {xs : List V} {H : Hp} {Q : VK} (h : SqT K H a xs) (k : ∀ p H', Le H H' → SqT K H' p [] → Q (.ref p) H') : rSlA K (.ref a) (some (xs.length : Int)) none H Q := by
  have e0 : HT.sIx xs.length 0 (some (xs.length : Int)) = xs.length := by
    rw [HT.sIx_nat, Nat.min_self]
  refine ⟨a, xs, rfl, h, fun ⟨z, _⟩ => ?_, fun _ p hp => ?_⟩
  · rw [e0] at z
    have : xs = [] := List.eq_nil_of_length_eq_zero z
    subst this
    exact k a H (Le.refl _) h
  · refine k p _ (Le.new hp) (SqT.of ?_)
    rw [upd_same]
    unfold cutV
    rw [e0, List.drop_length, List.take_nil]
def spLookSame : Sp := fun vs H Q _ => ∃ w1 w2 U1 U2, vs = [.ref w1, .ref w2] ∧ WorldAt H w1 U1 ∧ WorldAt H w2 U2 ∧ U1.Ok ∧ U2.Ok ∧ SameCl U1 U2 ∧ ∀ H', Le H H' → Q .non H'
def spFirst : Sp := fun vs H Q _ => ∃ t1 t2 U1 U2, vs = [.ref t1, .ref t2] ∧ Tabs TBS H ∧ TabAt H t1 U1 ∧ TabAt H t2 U2 ∧ U1.Ok ∧ U2.Ok ∧ SameCl U1 U2 ∧ (∀ ps, PsOk U1 ps → ∀ c ∈ U1.names, ∀ d ∈ U1.names, SameSt U1 U2 c d ps) ∧ ∀ H', Le H H' → Q .non H'
def spAlike : Sp := fun vs H Q _ => ∃ w1 w2 U1 U2, vs = [.ref w1, .ref w2] ∧ Tabs TBS H ∧ WorldAt H w1 U1 ∧ WorldAt H w2 U2 ∧ U1.Ok ∧ U2.Ok ∧ SameCl U1 U2 ∧ (∀ ps, PsOk U1 ps → ∀ c ∈ U1.names, ∀ d ∈ U1.names, SameSt U1 U2 c d ps) ∧ ∀ H', Le H H' → Q (.bl true) H'

theorem sc_look_same : FnScope ["one", "other", "name", "beside", "shared"] ["one", "other"] (defScope s_look_same) := ⟨rfl, rfl, rfl, by decide +kernel, rfl, by decide +kernel, by decide +kernel⟩
theorem ok_look_same (T : Tx K mg) (c_World_names : CalP P w K mg base cWorld "names" 1 ["self"] spNames) (c_World_class_picture : CalM P w K mg base cWorld "class_picture" 3 ["self", "name"] (spPic K)) : Cal P w K mg base "look_same" 4 ["one", "other"] spLookSame := by
  obtain ⟨fd, F⟩ := T.fn _ fi_look_same
  have G : FnOk P w K mg base CX0 4 d_look_same.f fd ["one", "other"] spLookSame := by
    refine F.ok sc_look_same (fun vs H Q E h => ?_) (fun cdv A outer s H vs Q E hr h => ⟨_, PSs.nox (X := cxOf CX0 P w K mg base _ _ _ _ cdv A outer s H E) ((pss_cons (ps_for PassesOwn.never rfl (wzip K (by rfl) T.f_zip (pa_cons (ppr c_World_names (hr.mono (by decide : 2 ≤ _)) (pv 0) rfl) (pa_cons (ppr c_World_names (hr.mono (by decide : 2 ≤ _)) (pv 1) rfl) pa_nil))) (wtup (n := 2) K rfl (pgs_cons (pg_name (i := 2) sc_look_same.nd rfl (Or.inl rfl)) (pgs_cons (pg_name (i := 3) sc_look_same.nd rfl (Or.inl rfl)) pgs_nil))) (pss_one (ps_if (pt_cmpR (wne K hr.units) (pm c_World_class_picture hr (pv 0) (pa_cons (pv 2) pa_nil)) (pm c_World_class_picture hr (pv 1) (pa_cons (pv 3) pa_nil)) (nomark _)) (pss_one ps_never) pss_nil)))
    (pss_cons (ps_set (i := 4) sc_look_same.nd rfl (Or.inl rfl) (pe_callB (call_min2 rfl) (by rfl) T.f_min bb_min (pa_cons (pe_callB (wlen K) (by rfl) T.f_len bb_len (pa_cons (ppr c_World_names (hr.mono (by decide : 2 ≤ _)) (pv 0) rfl) pa_nil)) (pa_cons (pe_callB (wlen K) (by rfl) T.f_len bb_len (pa_cons (ppr c_World_names (hr.mono (by decide : 2 ≤ _)) (pv 1) rfl) pa_nil)) pa_nil))))
    (pss_one (ps_for PassesOwn.never rfl (wlist K (pe_lst (wstar K (pe_slice (wslt K) (ppr c_World_names (hr.mono (by decide : 2 ≤ _)) (pv 0) rfl) (po_some (pv 4)) po_none) (wstar K (pe_slice (wslt K) (ppr c_World_names (hr.mono (by decide : 2 ≤ _)) (pv 1) rfl) (po_some (pv 4)) po_none) pa_nil)))) (pg_name (i := 2) sc_look_same.nd rfl (Or.inl rfl)) (pss_one ps_never)))))), ?_⟩)
    · obtain ⟨_, _, _, _, rfl, _⟩ := h
      rfl
    · obtain ⟨w1, w2, U1, U2, rfl, W1, W2, ok1, ok2, sc, k⟩ := h
      obtain ⟨dxw1, y1, y2, y3, y4, y5, hw1, R1⟩ := W1.ex
      obtain ⟨dxw2, z1, z2, z3, z4, z5, hw2, R2⟩ := W2.ex
      refine ⟨_, rfl, w1, dxw1, _, rfl, hw1, w1, U1, rfl, W1, fun n1 H1 e1 hn1 => ?_⟩
      refine ⟨_, rfl, w2, dxw2, _, rfl, e1.at hw2, w2, U2, rfl, W2.mono e1, fun n2 H2 e2 hn2 => ?_⟩
      rw [← sc.nm] at hn2
      have e12 := e1.trans e2
      refine ⟨n1, n2, _, _, rfl, .inr ⟨SqT.of (e2.at hn1), SqT.of hn2, ?_⟩⟩
      refine RZ.for_zipT rfl (fun i σ H' => Le H2 H' ∧ ∃ v2 v3, σ = [some (.ref w1), some (.ref w2), v2, v3, none]) ⟨Le.refl _, none, none, rfl⟩ (fun i σ H' p => ⟨SqT.of (p.1.at (e2.at hn1)), SqT.of (p.1.at hn2)⟩) ?_ ?_
      · rintro i x y p σ Ha hx hy ⟨e, v2, v3, rfl⟩ hp
        obtain ⟨z, hz, rfl⟩ := vS_get hx
        obtain ⟨z', hz', rfl⟩ := vS_get hy
        rw [hz] at hz'
        cases hz'
        have hzn := List.mem_of_getElem? hz
        have ep := Le.new (o := .tup [.str z, .str z]) hp
        have e1p := (e12.trans e).trans ep
        refine ⟨p, _, rfl, SqT.of upd_same, rfl, _, _, rfl, _, _, rfl, rfl, ?_⟩
        refine ⟨_, rfl, w1, dxw1, _, rfl, e1p.at hw1, fsW_no_pic, _, rfl, w1, U1, z, rfl, W1.mono e1p, ok1, hzn, fun v1 H4 e4 d1 => ?_⟩
        refine ⟨_, rfl, w2, dxw2, _, rfl, (e1p.trans e4).at hw2, fsW_no_pic, _, rfl, w2, U2, z, rfl, W2.mono (e1p.trans e4), ok2, by rw [← sc.nm]; exact hzn, fun v2' H5 e5 d2 => ?_⟩
        rw [← sc.pic ok1 hzn] at d2
        have sh := ok1.pic_sh hzn
        refine ⟨_, _, dp_mono e5 d1, d2, sh, sh, _, rfl, ?_⟩
        rw [SeqAt.eqv_refl _ (SeqAt.canLay_of_shaped sh)]
        exact iteF ⟨((e.trans ep).trans e4).trans e5, _, _, rfl⟩
      · rintro σ H3 ⟨e, v2, v3, rfl⟩
        have e13 := e12.trans e
        refine ⟨_, rfl, w1, dxw1, _, rfl, e13.at hw1, w1, U1, rfl, W1.mono e13, fun m1 H4 e4 hm1 => ⟨m1, _, rfl, .inr (SqT.of hm1), ?_⟩⟩
        have e14 := e13.trans e4
        refine ⟨_, rfl, w2, dxw2, _, rfl, e14.at hw2, w2, U2, rfl, W2.mono e14, fun m2 H5 e5 hm2 => ⟨m2, _, rfl, .inr (SqT.of hm2), _, _, rfl, ?_⟩⟩
        rw [← sc.nm]
        have e15 := e14.trans e5
        have em : (if ((vS U1.names).length : Int) < ((vS U1.names).length : Int) then ((vS U1.names).length : Int) else ((vS U1.names).length : Int)) = ((vS U1.names).length : Int) := by split <;> rfl
        rw [em]
        show gName 4 _ _ _ _
        refine ⟨_, rfl, w1, dxw1, _, rfl, e15.at hw1, w1, U1, rfl, W1.mono e15, fun m3 H6 e6 hm3 => ⟨_, rfl, _, rfl, ?_⟩⟩
        dsimp only [tNoPart]
        refine rsl_end (SqT.of hm3) fun p1 H7 e7 hp1 => ⟨p1, [], rfl, .inl hp1, ?_⟩
        have e17 := (e15.trans e6).trans e7
        refine ⟨_, rfl, w2, dxw2, _, rfl, e17.at hw2, w2, U2, rfl, W2.mono e17, fun m4 H8 e8 hm4 => ⟨_, rfl, _, rfl, ?_⟩⟩
        rw [← sc.nm] at hm4
        dsimp only [tNoPart]
        refine rsl_end (SqT.of hm4) fun p2 H9 e9 hp2 => ⟨p2, [], rfl, .inl hp2, ?_⟩
        refine ⟨(by decide : 0 ≤ sizeLine), fun q hq => ⟨q, rfl, ⟨[], SqL.of upd_same⟩, ?_⟩⟩
        have e19 := (e17.trans e8).trans e9
        refine for_it (D := { nx := fun _ H' => Q V.non H', rt := Q }) (walk_list (K := K) (a := q) (xs := [])) (fun i σ H' => Le (upd H9 q (.lst [])) H') (Le.refl _) (fun i σ H' _ p => SqL.of (p.at upd_same)) (fun i x σ Ha Hb hi => absurd hi (Nat.not_lt_zero _)) ?_
        exact fun σ H' e => k H' ((e19.trans (Le.new hq)).trans e)
  exact ⟨⟨_, fd, G, T.g_look_same, F.kp, F.bindsN (ps := ["one", "other"]) fun _ _ _ _ _ _ us hl => match us, hl with | [_, _], _ => rfl⟩⟩

theorem sc_first_difference : FnScope ["one", "other", "patterns", "names", "cls", "beside", "states", "name"] ["one", "other"] (defScope s_first_difference) := ⟨rfl, rfl, rfl, by decide +kernel, rfl, by decide +kernel, by decide +kernel⟩
theorem ok_first_difference (T : Tx K mg) (c_patterns_in : Cal P w K mg base "patterns_in" 3 ["table"] spPats) (c_Table_all_names : CalM P w K mg base cTable "all_names" 1 ["self"] spTAll) (c_Table_sworn : CalM P w K mg base cTable "sworn" 2 ["self", "name"] spTSworn) (c_state_of : Cal P w K mg base "state_of" 9 ["table", "cls", "other", "patterns"] spState) : Cal P w K mg base "first_difference" 10 ["one", "other"] spFirst := by
  obtain ⟨fd, F⟩ := T.fn _ fi_first_difference
  have G : FnOk P w K mg base CX0 10 d_first_difference.f fd ["one", "other"] spFirst := by
    refine F.ok sc_first_difference (fun vs H Q E h => ?_) (fun cdv A outer s H vs Q E hr h => ⟨_, PSs.nox (X := cxOf CX0 P w K mg base _ _ _ _ cdv A outer s H E) ((pss_cons (ps_set (i := 2) sc_first_difference.nd rfl (Or.inl rfl) (pc c_patterns_in (hr.mono (by decide : 3 ≤ _)) rfl (pa_cons (pv 0) pa_nil)))
    (pss_cons (ps_set (i := 3) sc_first_difference.nd rfl (Or.inl rfl) (pm0 c_Table_all_names (hr.mono (by decide : 1 ≤ _)) (pv 0)))
    (pss_cons (ps_for PassesOwn.never rfl (wlist K (pe_lc (own := [("name", 7)]) rfl sc_first_difference.nd (wlist K (pv 3)) (blkOk_by (N := ["one", "other", "patterns", "names", "cls", "beside", "states", "name"]) (sc := defScope s_first_difference) (own := [("name", 7)]) (by decide +kernel)) (fun _ _ _ _ _ => (pg_name (i := 7) sc_first_difference.nd rfl (Or.inl rfl))) (fun _ _ _ _ _ => (pts_one (pt_val (pm c_Table_sworn (hr.mono (by decide : 2 ≤ _)) (pv 0) (pa_cons (pv 7) pa_nil))))) (fun _ _ _ _ _ => (pv 7)))) (pg_name (i := 4) sc_first_difference.nd rfl (Or.inr rfl)) (pss_one (ps_for PassesOwn.never rfl (wlist K (pe_lc (own := [("name", 7)]) rfl sc_first_difference.nd (wlist K (pv 3)) (blkOk_by (N := ["one", "other", "patterns", "names", "cls", "beside", "states", "name"]) (sc := defScope s_first_difference) (own := [("name", 7)]) (by decide +kernel)) (fun _ _ _ _ _ => (pg_name (i := 7) sc_first_difference.nd rfl (Or.inl rfl))) (fun _ _ _ _ _ => (pts_one (pt_cmpR op_ne (pv 7) (pv 4) (nomark _)))) (fun _ _ _ _ _ => (pv 7)))) (pg_name (i := 5) sc_first_difference.nd rfl (Or.inl rfl)) (pss_cons (ps_set (i := 6) sc_first_difference.nd rfl (Or.inl rfl) (pe_tup (pa_cons (pc c_state_of hr rfl (pa_cons (pv 0) (pa_cons (pv 4) (pa_cons (pv 5) (pa_cons (pv 2) pa_nil))))) (pa_cons (pc c_state_of hr rfl (pa_cons (pv 1) (pa_cons (pv 4) (pa_cons (pv 5) (pa_cons (pv 2) pa_nil))))) pa_nil))))
    (pss_one (ps_if (pt_cmpR (wne K hr.units) (pe_ix (wixt K) (pv 6) pe_int (fun _ _ => rfl)) (pe_ix (wixt K) (pv 6) pe_int (fun _ _ => rfl)) (nomark _)) (pss_one (ps_ret (pe_tup (pa_cons (pv 4) (pa_cons (pv 5) (pa_cons (pv 6) pa_nil)))))) pss_nil))))))
    (pss_one (ps_ret pe_non)))))), ?_⟩)
    · obtain ⟨_, _, _, _, rfl, _⟩ := h
      rfl
    · obtain ⟨t1, t2, U1, U2, rfl, tb, R1, R2, ok1, ok2, sc, ss, k⟩ := h
      obtain ⟨dx, r, nb, ll, mk, ht⟩ := R1.ins
      refine ⟨_, rfl, t1, U1, rfl, R1, ok1, fun pl H1 ms e1 hps hpz hms => ?_⟩
      show gName 2 _ _ _ _
      refine ⟨_, rfl, t1, dx, _, rfl, e1.at ht, fsT_no_all_names, t1, U1, rfl, R1.mono e1, fun nl H2 e2 _ hnl => ?_⟩
      have e12 := e1.trans e2
      show gName 3 _ _ _ _
      refine ⟨_, rfl, nl, rfl, ⟨_, SqL.of hnl⟩, fun D hD => ?_⟩
      have hz := ok1.sz
      refine lc_S (ws_list (K := K) (a := nl) (l := U1.names)) (fun n => U1.sworn n) V.str (by omega) hD (fun H' e => SqL.of (e.at hnl)) ?_ ?_
      · intro z hz Hb e _ QF QT h1 h2
        have e1b := e12.trans e
        refine ⟨rfl, _, rfl, t1, dx, _, rfl, e1b.at ht, fsT_no_sworn, _, rfl, t1, U1, z, rfl, R1.mono e1b, ok1, hz, fun H3 e3 => ⟨_, rfl, ?_⟩⟩
        cases hq : U1.sworn z with
        | true => exact iteT ⟨_, rfl, h2 H3 e3 hq⟩
        | false => exact iteF (h1 H3 e3 hq)
      · intro H3 e3 hD3
        have e13 := e12.trans e3
        refine ⟨D, rfl, ⟨_, SqL.of hD3⟩, ?_⟩
        refine for_it (ws_list (K := K) (a := D) (l := U1.names.filter fun n => U1.sworn n)) (fun i σ H' => Le H3 H' ∧ ∃ v4 v5 v6 v7, σ = [some (.ref t1), some (.ref t2), some (.ref pl), some (.ref nl), v4, v5, v6, v7]) ⟨Le.refl _, none, none, none, none, rfl⟩ (fun i σ H' _ p => SqL.of (p.1.at hD3)) ?_ ?_
        · rintro i x σ Ha Hb hi ⟨e, v4, v5, v6, v7, rfl⟩ ⟨rfl, c, hc, rfl⟩
          have hcn : c ∈ U1.names := (List.mem_filter.mp (List.mem_of_getElem? hc)).1
          have e1b := e13.trans e
          refine ⟨_, rfl, nl, rfl, ⟨_, SqL.of ((e3.trans e).at hnl)⟩, fun D2 hD2 => ?_⟩
          refine lc_S (ws_list (K := K) (a := nl) (l := U1.names)) (fun n => !decide (V.str n = V.str c)) V.str (by omega) hD2 (fun H' e' => SqL.of (e'.at ((e3.trans e).at hnl))) ?_ ?_
          · intro z hz Hc e' _ QF QT h1 h2
            refine ⟨rfl, _, rfl, _, rfl, rfl, _, rfl, ?_⟩
            cases hq : (!decide (V.str z = V.str c)) with
            | true => exact iteT ⟨_, rfl, h2 Hc (Le.refl _) hq⟩
            | false => exact iteF (h1 Hc (Le.refl _) hq)
          · intro H4 e4 hD4
            have e14 := e1b.trans e4
            refine ⟨D2, rfl, ⟨_, SqL.of hD4⟩, ?_⟩
            refine for_it (ws_list (K := K) (a := D2) (l := U1.names.filter fun n => !decide (V.str n = V.str c))) (fun i σ H' => Le H4 H' ∧ ∃ v5 v6 v7, σ = [some (.ref t1), some (.ref t2), some (.ref pl), some (.ref nl), some (.str c), v5, v6, v7]) ⟨Le.refl _, _, _, _, rfl⟩ (fun i σ H' _ p => SqL.of (p.1.at hD4)) ?_ ?_
            · rintro j y σ Hc Hd hj ⟨e5, v5, v6, v7, rfl⟩ ⟨rfl, d, hd, rfl⟩
              have hdn : d ∈ U1.names := (List.mem_filter.mp (List.mem_of_getElem? hd)).1
              have e15 := e14.trans e5
              have e25 := ((e2.trans e3).trans e).trans (e4.trans e5)
              have pk : PatsAt Hd pl (patsOf ms) := hps.mono e25
              refine ⟨_, rfl, _, rfl, _, rfl, _, rfl, t1, U1, c, d, pl, patsOf ms, rfl, e15.tab tb, R1.mono e15, ok1, hcn, hdn, pk, hpz, fun v1 H6 e6 s1 => ?_⟩
              have e16 := e15.trans e6
              refine ⟨_, rfl, _, rfl, _, rfl, _, rfl, t2, U2, c, d, pl, patsOf ms, rfl, e16.tab tb, R2.mono e16, ok2, by rw [← sc.nm]; exact hcn, by rw [← sc.nm]; exact hdn, pk.mono e6, hpz, fun v2 H7 e7 s2 => ⟨(by decide : 2 ≤ sizeLine), fun q hq => ?_⟩⟩
              have e8 := Le.new (o := .tup [v1, v2]) hq
              obtain ⟨f1, f2, g1, g2, g3, g4, g5⟩ := state_dp (K := K) (s1.mono (e7.trans e8)) (s2.mono e8)
              have heq := g5.2 (ss _ ⟨ms, hms, rfl⟩ c hcn d hdn)
              show gName 6 _ _ _ _
              refine ⟨_, rfl, q, [v1, v2], 0, v1, rfl, rfl, SqT.of upd_same, rfl, _, rfl, q, [v1, v2], 1, v2, rfl, rfl, SqT.of upd_same, rfl, f1, f2, g1, g2, g3, g4, _, rfl, ?_⟩
              rw [heq]
              exact iteF ⟨((e5.trans e6).trans e7).trans e8, _, _, _, rfl⟩
            · rintro σ H' ⟨e5, v5, v6, v7, rfl⟩
              exact ⟨(e.trans e4).trans e5, _, _, _, _, rfl⟩
        · rintro σ H' ⟨e, v4, v5, v6, v7, rfl⟩
          exact k H' (e13.trans e)
  exact ⟨⟨_, fd, G, T.g_first_difference, F.kp, F.bindsN (ps := ["one", "other"]) fun _ _ _ _ _ _ us hl => match us, hl with | [_, _], _ => rfl⟩⟩

theorem sc_alike : FnScope ["one", "other"] ["one", "other"] (defScope s_alike) := ⟨rfl, rfl, rfl, by decide +kernel, rfl, by decide +kernel, by decide +kernel⟩
theorem ok_alike (T : Tx K mg) (c_look_same : Cal P w K mg base "look_same" 4 ["one", "other"] spLookSame) (c_first_difference : Cal P w K mg base "first_difference" 10 ["one", "other"] spFirst) : Cal P w K mg base "alike" 11 ["one", "other"] spAlike := by
  obtain ⟨fd, F⟩ := T.fn _ fi_alike
  have G : FnOk P w K mg base CX0 11 d_alike.f fd ["one", "other"] spAlike := by
    refine F.ok sc_alike (fun vs H Q E h => ?_) (fun cdv A outer s H vs Q E hr h => ⟨_, PSs.nox (X := cxOf CX0 P w K mg base _ _ _ _ cdv A outer s H E) ((pss_cons (ps_expr (pc c_look_same (hr.mono (by decide : 4 ≤ _)) rfl (pa_cons (pv 0) (pa_cons (pv 1) pa_nil))))
    (pss_one (ps_ret (pe_cmpR op_isN (pc c_first_difference hr rfl (pa_cons (wfld K (pv 0) rfl) (pa_cons (wfld K (pv 1) rfl) pa_nil))) pe_non (nomark _)))))), ?_⟩)
    · obtain ⟨_, _, _, _, rfl, _⟩ := h
      rfl
    · obtain ⟨w1, w2, U1, U2, rfl, tb, W1, W2, ok1, ok2, sc, ss, k⟩ := h
      obtain ⟨d1, t1, a1, b1, c1, f1, hw1, R1⟩ := W1.ex
      obtain ⟨d2, t2, a2, b2, c2, f2, hw2, R2⟩ := W2.ex
      refine ⟨_, rfl, _, rfl, w1, w2, U1, U2, rfl, W1, W2, ok1, ok2, sc, fun H1 e1 => ?_⟩
      refine ⟨_, rfl, _, cWorld, d1, _, _, rfl, e1.at hw1, T.cl_World, T.n_World_table, fsW_table, _, rfl, _, cWorld, d2, _, _, rfl, e1.at hw2, T.cl_World, T.n_World_table, fsW_table, t1, t2, U1, U2, rfl, e1.tab tb, R1.mono e1, R2.mono e1, ok1, ok2, sc, ss, fun H2 e2 => ⟨rfl, ?_⟩⟩
      exact k H2 (e1.trans e2)
  exact ⟨⟨_, fd, G, T.g_alike, F.kp, F.bindsN (ps := ["one", "other"]) fun _ _ _ _ _ _ us hl => match us, hl with | [_, _], _ => rfl⟩⟩

end
end Sw
set_option linter.all false
set_option maxRecDepth 100000
set_option maxHeartbeats 4000000
/-! SwF13: the world's own table, its cache. Terms printed by gen_term.py. -/
namespace Sw
open PySem PySem.Spec PyProof.Rows L2 LamX
section
variable {P : Program} {w : World} {K : PySem.W.Frag} {mg : Str → Option Value} {base : Heap}


def fsC (kp : Addr) : List (Str × V) := [("kept", .ref kp)]
theorem fsC_kept {kp : Addr} : (fsC kp).lookup ("kept" : Str) = some (.ref kp) := by kernel_rfl
theorem fsC_put {kp kp' : Addr} : putF "kept" (.ref kp') (fsC kp) = fsC kp' := by kernel_rfl
/-- a world that is one's own, made behind H0; its table's parts -/
structure WldX (H0 H : Hp) (w : Addr) (U : Tb) (t dx r nb l : Addr) (mk : Int) (ad lf mf la : Str → Addr) : Prop where
  hw : ∃ dxw ca vi th ch dxc kp, H w = some (.ins cWorld dxw (fsW t ca vi th ch)) ∧ H ca = some (.ins cCache dxc (fsC kp)) ∧ H kp = some (.dK []) ∧ H ch = some (.lst []) ∧ Fre H0 ca ∧ kp ≠ r ∧ kp ≠ nb ∧ kp ≠ l ∧ ∀ n ∈ U.names, la n ≠ ch
  tx : TabX H0 H t U dx r nb l mk ad lf mf la
structure WldF (H0 H : Hp) (w : Addr) (U : Tb) : Prop where
  ex : ∃ t dx r nb l mk ad lf mf la, WldX H0 H w U t dx r nb l mk ad lf mf la
theorem WldF.at_ {H0 H : Hp} {w : Addr} {U : Tb} (h : WldF H0 H w U) : WorldAt H w U := by
  obtain ⟨t, dx, r, nb, l, mk, ad, lf, mf, la, X⟩ := h.ex
  obtain ⟨dxw, ca, vi, th, ch, dxc, kp, h1, _⟩ := X.hw
  exact ⟨dxw, t, ca, vi, th, ch, h1, TabF.tab ⟨dx, r, nb, l, mk, ad, lf, mf, la, X.tx⟩⟩
theorem WldX.mono {H0 H H' : Hp} {w : Addr} {U : Tb} {t dx r nb l : Addr} {mk : Int} {ad lf mf la : Str → Addr} (h : WldX H0 H w U t dx r nb l mk ad lf mf la) (e : Le H H') : WldX H0 H' w U t dx r nb l mk ad lf mf la := by
  obtain ⟨dxw, ca, vi, th, ch, dxc, kp, h1, h2, h3, h4, h5⟩ := h.hw
  exact ⟨⟨dxw, ca, vi, th, ch, dxc, kp, e.at h1, e.at h2, e.at h3, e.at h4, h5⟩, h.tx.mono e⟩
theorem WldF.mono {H0 H H' : Hp} {w : Addr} {U : Tb} (h : WldF H0 H w U) (e : Le H H') : WldF H0 H' w U := by
  obtain ⟨t, dx, r, nb, l, mk, ad, lf, mf, la, X⟩ := h.ex
  exact ⟨t, dx, r, nb, l, mk, ad, lf, mf, la, X.mono e⟩
def spCInit : Sp := fun vs H Q _ => ∃ x dx H0, vs = [.ref x] ∧ H x = some (.ins cCache dx []) ∧ Le H0 H ∧ Fre H0 x ∧ ∀ kp H', Le H0 H' → Fre H0 kp → H' x = some (.ins cCache dx (fsC kp)) → H' kp = some (.dK []) → Q .non H'
/-- the cache's refresh: an empty cache stays empty; but for the cache the heap grows -/
def spCRef : Sp := fun vs H Q _ => ∃ ca tv dxc kp, vs = [.ref ca, tv] ∧ H ca = some (.ins cCache dxc (fsC kp)) ∧ H kp = some (.dK []) ∧ ∀ kp' H1, Le H H1 → Fre H kp' → H1 kp' = some (.dK []) → H1 ca = some (.ins cCache dxc (fsC kp)) → Q .non (upd H1 ca (.ins cCache dxc (fsC kp')))
def spWRef : Sp := fun vs H Q _ => ∃ w U H0, vs = [.ref w] ∧ Le H0 H ∧ WldF H0 H w U ∧ ∀ H', Le H0 H' → WldF H0 H' w U → Q .non H'
def spAddR : Sp := fun vs H Q _ => ∃ t a b dx r nb l mk la, ∃ U : Tb, vs = [.ref t, .str a, .str b] ∧ H t = some (.ins cTable dx (fsT r nb l mk)) ∧ H l = some (.dK (kvR U.names la)) ∧ a ∈ U.names ∧ H (la a) = some (.lst (vS (U.ls a))) ∧ (U.ls a).length ≤ 1000 ∧ (b ∈ U.ls a → Q .non H) ∧ (b ∉ U.ls a → Q .non (upd H (la a) (.lst (vS (U.ls a ++ [b])))))

theorem sc_Cache_init : FnScope ["self"] ["self"] (defScope s_Cache_init) := ⟨rfl, rfl, rfl, by decide +kernel, rfl, by decide +kernel, by decide +kernel⟩
theorem ok_Cache_init (T : Tx K mg)  : CalC P w K mg base "Cache" cCache 1 ["self"] spCInit := by
  obtain ⟨fd, F⟩ := T.fn _ fi_Cache_init
  have G : FnOk P w K mg base CX0 1 d_Cache_init.f fd ["self"] spCInit := by
    refine F.ok sc_Cache_init (fun vs H Q E h => ?_) (fun cdv A outer s H vs Q E hr h => ⟨_, PSs.nox (X := cxOf CX0 P w K mg base _ _ _ _ cdv A outer s H E) ((pss_one (wsfld K (pv 0) pe_dnewK rfl))), ?_⟩)
    · obtain ⟨_, _, _, rfl, _⟩ := h
      rfl
    · obtain ⟨x, dx, H0, rfl, hx, e, fx, k⟩ := h
      refine fun kp hkp => ⟨_, rfl, _, cCache, dx, [], rfl, (Le.new hkp).at hx, T.cl_Cache, T.n_Cache_kept, (by decide : 0 < 1000), ?_⟩
      have e1 := e.trans (Le.new (o := .dK []) hkp)
      have x1 := (Le.new (o := .dK []) hkp).at hx
      refine k kp _ (e1.mutF fx x1 rfl) (e.fre (.of hkp)) upd_same ?_
      rw [upd_ne (fun z => by rw [z, hx] at hkp; cases hkp)]
      exact upd_same
  exact ⟨⟨_, fd, G, T.mk_Cache, T.c_Cache, F.bindsN (ps := ["self"]) fun _ _ _ _ _ _ us hl => match us, hl with | [_], _ => rfl⟩⟩

theorem sc_Cache_refresh : FnScope ["self", "table", "fresh", "name", "answers", "here", "one"] ["self", "table"] (defScope s_Cache_refresh) := ⟨rfl, rfl, rfl, by decide +kernel, rfl, by decide +kernel, by decide +kernel⟩
theorem ok_Cache_refresh (T : Tx K mg)  : CalM P w K mg base cCache "refresh" 3 ["self", "table"] spCRef := by
  obtain ⟨fd, F⟩ := T.fn _ fi_Cache_refresh
  have G : FnOk P w K mg base CX0 3 d_Cache_refresh.f fd ["self", "table"] spCRef := by
    refine F.ok sc_Cache_refresh (fun vs H Q E h => ?_) (fun cdv A outer s H vs Q E hr h => ⟨_, PSs.nox (X := cxOf CX0 P w K mg base _ _ _ _ cdv A outer s H E) ((pss_cons (ps_set (i := 2) sc_Cache_refresh.nd rfl (Or.inl rfl) pe_dnewK)
    (pss_cons (ps_lock (ps_for PassesOwn.never rfl (pi_items (wfld K (pv 0) rfl)) (wtup (n := 2) K rfl (pgs_cons (pg_name (i := 3) sc_Cache_refresh.nd rfl (Or.inr rfl)) (pgs_cons (pg_name (i := 4) sc_Cache_refresh.nd rfl (Or.inr rfl)) pgs_nil))) pss_never))
    (pss_one (wsfld K (pv 0) (pv 2) rfl))))), ?_⟩)
    · obtain ⟨_, _, _, _, rfl, _⟩ := h
      rfl
    · obtain ⟨ca, tv, dxc, kp, rfl, hca, hkp, k⟩ := h
      refine fun p hp => ?_
      have e1 := Le.new (o := .dK []) hp
      show gName 2 _ _ _ _
      have hk1 := e1.at hkp
      refine ⟨kp, .dK [], hk1, trivial, fun od => ⟨_, rfl, _, cCache, dxc, _, _, rfl, lock_at hk1 (e1.at hca) (by intro q; cases q), T.cl_Cache, T.n_Cache_kept, fsC_kept, kp, od, [], rfl, upd_same, ?_⟩⟩
      refine for_it (walk_items (d := kp) (o := od) (kvs := [])) (fun i σ H' => Le (upd (upd H p (.dK [])) kp (.frz od (.dK []))) H' ∧ ∃ v3 v4 v5 v6, σ = [some (.ref ca), some tv, some (.ref p), v3, v4, v5, v6]) ⟨Le.refl _, _, _, _, _, rfl⟩ (fun i σ H' _ q => q.1.at upd_same) (fun i x σ Ha Hb hi => absurd hi (Nat.not_lt_zero _)) ?_
      rintro σ H' ⟨e, v3, v4, v5, v6, rfl⟩
      have e2 : Le (upd H p (.dK [])) (upd H' kp (.dK [])) := lock_le hk1 rfl e
      refine ⟨e.at upd_same, _, rfl, _, rfl, ca, cCache, dxc, _, rfl, (e1.trans e2).at hca, T.cl_Cache, T.n_Cache_kept, (by decide : 1 < 1000), ?_⟩
      rw [fsC_put]
      exact k p _ (e1.trans e2) (.of hp) (e2.at upd_same) ((e1.trans e2).at hca)
  exact ⟨⟨_, fd, G, T.m_Cache_refresh, T.cl_Cache, F.bindsN (ps := ["self", "table"]) fun _ _ _ _ _ _ us hl => match us, hl with | [_, _], _ => rfl⟩⟩

theorem sc_World_refresh : FnScope ["self", "kept"] ["self"] (defScope s_World_refresh) := ⟨rfl, rfl, rfl, by decide +kernel, rfl, by decide +kernel, by decide +kernel⟩
theorem ok_World_refresh (T : Tx K mg) (c_Cache_refresh : CalM P w K mg base cCache "refresh" 3 ["self", "table"] spCRef) : CalM P w K mg base cWorld "refresh" 4 ["self"] spWRef := by
  obtain ⟨fd, F⟩ := T.fn _ fi_World_refresh
  have G : FnOk P w K mg base CX0 4 d_World_refresh.f fd ["self"] spWRef := by
    refine F.ok sc_World_refresh (fun vs H Q E h => ?_) (fun cdv A outer s H vs Q E hr h => ⟨_, PSs.nox (X := cxOf CX0 P w K mg base _ _ _ _ cdv A outer s H E) ((pss_cons (ps_expr (pm c_Cache_refresh hr (wfld K (pv 0) rfl) (pa_cons (wfld K (pv 0) rfl) pa_nil)))
    (pss_one (ps_for PassesOwn.never rfl (wlist K (wfld K (pv 0) rfl)) (pg_name (i := 1) sc_World_refresh.nd rfl (Or.inl rfl)) pss_never)))), ?_⟩)
    · obtain ⟨_, _, _, rfl, _⟩ := h
      rfl
    · obtain ⟨w, U, H0, rfl, e, ⟨t, dx, r, nb, l, mk, ad, lf, mf, la, X⟩, k⟩ := h
      obtain ⟨dxw, ca, vi, th, ch, dxc, kp, h1, h2, h3, h4, h5, h6, h7, h8, h9⟩ := X.hw
      refine ⟨_, rfl, _, cWorld, dxw, _, _, rfl, h1, T.cl_World, T.n_World_cache, fsW_cache, ca, dxc, _, rfl, h2, (by kernel_rfl), _, rfl, _, cWorld, dxw, _, _, rfl, h1, T.cl_World, T.n_World_table, fsW_table, ca, .ref t, dxc, kp, rfl, h2, h3, fun kp' H1 e1 fk hk1 hc1 => ?_⟩
      have c1 : ∀ {b : Addr} {o : HO}, H1 b = some o → o ≠ .ins cCache dxc (fsC kp) → upd H1 ca (.ins cCache dxc (fsC kp')) b = some o := fun hb n => by
        rw [upd_ne (fun z => by rw [z, hc1] at hb; exact n (Option.some.inj hb).symm)]
        exact hb
      have hw2 := c1 (e1.at h1) (fun z => by cases z)
      have hch := c1 (e1.at h4) (fun z => by cases z)
      refine ⟨_, rfl, _, cWorld, dxw, _, _, rfl, hw2, T.cl_World, T.n_World_choice_lists, fsW_lists, ch, rfl, ⟨[], SqL.of hch⟩, ?_⟩
      have eW : Le H0 (upd H1 ca (.ins cCache dxc (fsC kp'))) := (e.trans e1).mutF h5 hc1 rfl
      have XW : WldX H0 (upd H1 ca (.ins cCache dxc (fsC kp'))) w U t dx r nb l mk ad lf mf la := by
        obtain ⟨kv, hkv, _⟩ := X.tx.hn
        refine ⟨⟨dxw, ca, vi, th, ch, dxc, kp', hw2, upd_same, c1 hk1 (fun z => by cases z), hch, h5, (fk.ne X.tx.hr).symm, (fk.ne hkv).symm, (fk.ne X.tx.hl).symm, h9⟩, (X.tx.mono e1).upd hc1 rfl (fun fs z => by cases z) (fun kv z => by cases z) (fun xs z => by cases z)⟩
      refine for_it (walk_list (K := K) (a := ch) (xs := [])) (fun i σ H' => Le (upd H1 ca (.ins cCache dxc (fsC kp'))) H') (Le.refl _) (fun i σ H' _ p => SqL.of (p.at hch)) (fun i x σ Ha Hb hi => absurd hi (Nat.not_lt_zero _)) ?_
      exact fun σ H' e2 => k H' (eW.trans e2) ⟨t, dx, r, nb, l, mk, ad, lf, mf, la, XW.mono e2⟩
  exact ⟨⟨_, fd, G, T.m_World_refresh, T.cl_World, F.bindsN (ps := ["self"]) fun _ _ _ _ _ _ us hl => match us, hl with | [_], _ => rfl⟩⟩

theorem sc_Table_add_registration : FnScope ["self", "name", "other"] ["self", "name", "other"] (defScope s_Table_add_registration) := ⟨rfl, rfl, rfl, by decide +kernel, rfl, by decide +kernel, by decide +kernel⟩
theorem ok_Table_add_registration (T : Tx K mg)  : CalM P w K mg base cTable "add_registration" 1 ["self", "name", "other"] spAddR := by
  obtain ⟨fd, F⟩ := T.fn _ fi_Table_add_registration
  have G : FnOk P w K mg base CX0 1 d_Table_add_registration.f fd ["self", "name", "other"] spAddR := by
    refine F.ok sc_Table_add_registration (fun vs H Q E h => ?_) (fun cdv A outer s H vs Q E hr h => ⟨_, PSs.nox (X := cxOf CX0 P w K mg base _ _ _ _ cdv A outer s H E) ((pss_one (ps_if (pt_cmpR (wnin K) (pv 2) (pe_dget (hu_of hr) (wfld K (pv 0) rfl) (pv 1) (fun _ _ => rfl)) rfl) (pss_one (ps_expr (wapp K (pe_dget (hu_of hr) (wfld K (pv 0) rfl) (pv 1) (fun _ _ => rfl)) (pv 2)))) pss_nil))), ?_⟩)
    · obtain ⟨_, _, _, _, _, _, _, _, _, _, rfl, _⟩ := h
      rfl
    · obtain ⟨t, a, b, dx, r, nb, l, mk, la, U, rfl, ht, hl, ha, hla, hz, k1, k2⟩ := h
      refine ⟨_, rfl, _, rfl, _, cTable, dx, _, _, rfl, ht, T.cl_Table, T.n_Table_lists, fsT_lists, _, rfl, l, _, rfl, dget_kv (.inl hl) ha, la a, _, rfl, .inl (SqL.of hla), rfl, vS_flat _, ?_⟩
      rw [inV_vS]
      cases hq : (U.ls a).contains b with
      | true => exact ⟨_, rfl, iteF (k1 (List.contains_iff_mem.mp hq))⟩
      | false =>
        refine ⟨_, rfl, iteT ⟨_, rfl, _, cTable, dx, _, _, rfl, ht, T.cl_Table, T.n_Table_lists, fsT_lists, _, rfl, l, _, rfl, dget_kv (.inl hl) ha, .inl ⟨rfl, _, SqL.of hla⟩, _, rfl, ?_⟩⟩
        have q := k2 (fun z => by rw [List.contains_iff_mem.mpr z] at hq; cases hq)
        refine ⟨la a, _, _, rfl, rfl, hla, sz5' (by rw [vS_len]; omega), ?_⟩
        rw [vS_app] at q
        exact q
  exact ⟨⟨_, fd, G, T.m_Table_add_registration, T.cl_Table, F.bindsN (ps := ["self", "name", "other"]) fun _ _ _ _ _ _ us hl => match us, hl with | [_, _, _], _ => rfl⟩⟩

end
end Sw
set_option linter.all false
set_option maxRecDepth 100000
set_option maxHeartbeats 4000000
/-! SwF14: rings. Terms printed by gen_term.py. -/
namespace Sw
open PySem PySem.Spec PyProof.Rows L2 LamX
section
variable {P : Program} {w : World} {K : PySem.W.Frag} {mg : Str → Option Value} {base : Heap}


abbrev Tb.Rn (U : Tb) (a b : Str) : Prop := Rch (fun u v => v ∈ U.next u) a b
/-- no road from n to m: the search finds none -/
def spShort : Sp := fun vs H Q _ => ∃ t U n m, vs = [.ref t, .str n, .str m] ∧ TabAt H t U ∧ U.Ok ∧ n ∈ U.names ∧ m ∈ U.names ∧ ¬ U.Rn n m ∧ ∀ H', Le H H' → Q .non H'
def spRing : Sp := fun vs H Q _ => ∃ t U n m, vs = [.ref t, .str n, .str m] ∧ TabAt H t U ∧ U.Ok ∧ n ∈ U.names ∧ m ∈ U.names ∧ ¬ U.Rn m n ∧ ∀ H', Le H H' → Q .non H'


theorem kvT_new {l : List Str} {o : Str} (h : o ∉ l) : putK (kvT l) (Sum.inr o) (.bl true) = kvT (l ++ [o]) := by
  have e : ((kvT l).any fun kv => decide (kv.1 = Sum.inr o)) = false := by
    rw [List.any_eq_false]
    intro x hx
    obtain ⟨n, hn, rfl⟩ := List.mem_map.mp hx
    intro z
    exact h (by rw [← Sum.inr.inj (of_decide_eq_true z : (Sum.inr n : Key) = Sum.inr o)]; exact hn)
  unfold putK
  rw [e, if_neg Bool.false_ne_true]
  unfold kvT
  rw [List.map_append]
  rfl
/-- a road as a list of names: it leads to what can be reached -/
def Good (U : Tb) (n : Str) (r : List Str) : Prop := ∃ r0 x, r = r0 ++ [x] ∧ x ∈ U.names ∧ U.Rn n x ∧ ∀ y ∈ r, y ∈ U.names
def RdAt (H : Hp) (v : V) (r : List Str) : Prop := ∃ a, v = .ref a ∧ H a = some (.lst (vS r))
def dR (r : List Str) : PyData := .list (dS r)
theorem dpAll_R {H : Hp} : ∀ {rds : List (List Str)} {rs : List V}, Paired (fun r v => RdAt H v r) rds rs → DpAll K H rs (rds.map dR)
  | _, _, .nil => .nil
  | _, _, .cons ⟨a, e, h⟩ t => by
    subst e
    exact .cons (.lst (SqL.of h) dpAll_S) (dpAll_R t)
theorem lay_R : ∀ {rds : List (List Str)}, (∀ r ∈ rds, ∀ y ∈ r, PyData.strOk y = true) → PyData.canLayAll0 (rds.map dR) = true ∧ PyData.depthAll (rds.map dR) ≤ 1
  | [], _ => ⟨rfl, Nat.zero_le _⟩
  | p :: l, h => by
    obtain ⟨h1, h2⟩ := lay_R fun y hy => h y (List.mem_cons_of_mem _ hy)
    obtain ⟨q1, q2⟩ := lay_S (h p List.mem_cons_self)
    rw [List.map_cons]
    refine ⟨?_, ?_⟩
    · show (PyData.canLayAll0 (dS p) && PyData.canLayAll0 (l.map dR)) = true
      rw [q1, h1]; rfl
    · show max (PyData.depthAll (dS p) + 1) (PyData.depthAll (l.map dR)) ≤ 1
      rw [q2]; omega
theorem shaped_R {rds : List (List Str)} (h : ∀ r ∈ rds, ∀ y ∈ r, PyData.strOk y = true) : SeqAt.shaped (.list (rds.map dR)) = true := by
  obtain ⟨a, b⟩ := lay_R h
  unfold SeqAt.shaped
  rw [show PyData.canLay0 (.list (rds.map dR)) = PyData.canLayAll0 (rds.map dR) from rfl, a, Bool.true_and, decide_eq_true_eq]
  show PyData.depthAll (rds.map dR) + 1 ≤ 64
  omega
theorem at_last (r0 : List Str) (x : Str) : atI (vS (r0 ++ [x])) (-1) = some (.str x) := by
  rw [vS_app]
  exact atI_last (vS r0) (.str x)
theorem seen_in {H : Hp} {p : Addr} {l : List Str} (a : H p = some (.dK (kvT l))) (n : Str) : ∃ o, DGet H p (.str n) o ∧ o.isSome = l.contains n := held_in a n
structure Srch (U : Tb) (n : Str) (H0 H : Hp) (rp sp : Addr) (s : List Str) (rds : List (List Str)) (rs : List V) : Prop where
  le : Le H0 H
  fsp : Fre H0 sp
  hr : H rp = some (.lst rs)
  pr : Paired (fun r v => RdAt H v r) rds rs
  hs : H sp = some (.dK (kvT s))
  nd : s.Nodup
  sn : ∀ x ∈ s, x ∈ U.names
  gd : ∀ r ∈ rds, Good U n r ∧ r.length ≤ s.length
  rl : rds.length ≤ s.length
theorem RdAt.mono {H H' : Hp} {v : V} {r : List Str} (e : Le H H') (h : RdAt H v r) : RdAt H' v r := by
  obtain ⟨a, h1, h2⟩ := h
  exact ⟨a, h1, e.at h2⟩
theorem Srch.mono {U : Tb} {n : Str} {H0 H H' : Hp} {rp sp : Addr} {s : List Str} {rds : List (List Str)} {rs : List V} (h : Srch U n H0 H rp sp s rds rs) (e : Le H H') : Srch U n H0 H' rp sp s rds rs :=
  ⟨h.le.trans e, h.fsp, e.at h.hr, Paired.mapP h.pr fun _ _ q => q.mono e, e.at h.hs, h.nd, h.sn, h.gd, h.rl⟩
theorem Tb.Ok.next_120 {U : Tb} (ok : U.Ok) {n : Str} (hn : n ∈ U.names) : (U.next n).length ≤ 120 := by
  unfold Tb.next
  split
  · rw [List.length_append]
    have h1 := ok.rsz n hn
    have h2 := List.length_filter_le (fun o => !(U.ls n).contains o) (U.below n)
    have h3 : (U.below n).length ≤ U.names.length := List.length_filter_le ..
    have h4 := ok.sz
    omega
  · exact Nat.zero_le _

theorem sc_Table_shortest_road : FnScope ["self", "name", "other", "roads", "seen", "road", "longer", "further"] ["self", "name", "other"] (defScope s_Table_shortest_road) := ⟨rfl, rfl, rfl, by decide +kernel, rfl, by decide +kernel, by decide +kernel⟩
theorem ok_Table_shortest_road (T : Tx K mg) (c_Table_next_of : CalM P w K mg base cTable "next_of" 3 ["self", "name"] spTNext) : CalM P w K mg base cTable "shortest_road" 4 ["self", "name", "other"] spShort := by
  obtain ⟨fd, F⟩ := T.fn _ fi_Table_shortest_road
  have G : FnOk P w K mg base CX0 4 d_Table_shortest_road.f fd ["self", "name", "other"] spShort := by
    refine F.ok sc_Table_shortest_road (fun vs H Q E h => ?_) (fun cdv A outer s H vs Q E hr h => ⟨_, PSs.nox (X := cxOf CX0 P w K mg base _ _ _ _ cdv A outer s H E) ((pss_cons (ps_if (pt_cmpR op_eq (pv 1) (pv 2) (nomark _)) (pss_one (ps_ret (pe_lst (pa_cons (pv 1) pa_nil)))) pss_nil)
    (pss_cons (ps_par (i := 3) (j := 4) rfl sc_Table_shortest_road.nd rfl rfl (by decide) rfl rfl (pa_cons (pe_lst (pa_cons (pe_lst (pa_cons (pv 1) pa_nil)) pa_nil)) (pa_cons (pe_disp (pps_cons (pv 1) pe_bl pps_nil) (by rfl) (by rfl) (fun z => by cases z) (by decide)) pa_nil)) (by rfl))
    (pss_cons (ps_while PassesOwn.never (pt_cmpR (wne K hr.units) (pv 3) (pe_lst pa_nil) (nomark _)) (pss_cons (ps_setLc2 (i := 6) (own := [("road", 5), ("further", 7)]) (vs1 := [7]) rfl sc_Table_shortest_road.nd rfl rfl (sw_true rfl rfl rfl (by decide +kernel)) (wlist K (pv 3)) (blkOk_by (N := ["self", "name", "other", "roads", "seen", "road", "longer", "further"]) (sc := defScope s_Table_shortest_road) (own := [("road", 5), ("further", 7)]) (by decide +kernel)) (by decide) (fun _ _ _ _ _ => (pg_name (i := 5) sc_Table_shortest_road.nd rfl (Or.inl rfl))) (fun _ _ _ _ _ => pts_nil) (fun _ _ _ _ _ => (wlist K (pm c_Table_next_of hr (pv 0) (pa_cons (pe_ix (wixl K) (pv 5) (pe_un un_neg pe_int) (fun _ _ => rfl)) pa_nil)))) (fun _ _ _ _ _ => (pg_name (i := 7) sc_Table_shortest_road.nd rfl (Or.inl rfl))) (fun _ _ _ _ _ => pts_nil) (fun _ _ _ _ _ => (pe_lst (wstar K (pv 5) (pa_cons (pv 7) pa_nil)))))
    (pss_cons (ps_set (i := 3) sc_Table_shortest_road.nd rfl (Or.inl rfl) (pe_lst pa_nil))
    (pss_one (ps_for PassesOwn.never rfl (wlist K (pv 6)) (pg_name (i := 5) sc_Table_shortest_road.nd rfl (Or.inl rfl)) (pss_cons (ps_if (pt_cmpR op_eq (pe_ix (wixl K) (pv 5) (pe_un un_neg pe_int) (fun _ _ => rfl)) (pv 2) (nomark _)) (pss_one (ps_ret (pv 5))) pss_nil)
    (pss_one (ps_if (pt_cmp (pc_dnotin (hu_of hr) (pe_ix (wixl K) (pv 5) (pe_un un_neg pe_int) (fun _ _ => rfl)) (pv 4)) rfl) (pss_cons (ps_dput (hu_of hr) (pv 4) (pe_ix (wixl K) (pv 5) (pe_un un_neg pe_int) (fun _ _ => rfl)) pe_bl rfl)
    (pss_one (ps_expr (wapp K (pv 3) (pv 5))))) pss_nil))))))))
    (pss_one (ps_ret pe_non)))))), ?_⟩)
    · obtain ⟨_, _, _, _, rfl, _⟩ := h
      rfl
    · obtain ⟨t, U, n, m, rfl, R, ok, hn, hm, hno, k⟩ := h
      obtain ⟨dx, r, nb, ll, mk, ht⟩ := R.ins
      have hne : n ≠ m := fun z => hno (by rw [z]; exact .refl _)
      refine ⟨_, rfl, _, rfl, rfl, _, rfl, ?_⟩
      rw [decide_eq_false (show ¬ V.str n = V.str m from fun z => hne (V.str.inj z))]
      refine iteF ⟨_, rfl, (by decide : 1 ≤ sizeLine), fun a0 ha0 => ⟨(by decide : 1 ≤ sizeLine), fun rp hrp => fun sp hsp => ⟨_, rfl, upd_same, [(Sum.inr n, .bl true)], rfl, (by decide : 1 ≤ 15), _, _, rfl, ?_⟩⟩⟩
      have E1 := Le.new (o := .lst [V.str n]) ha0
      have E2 := Le.new (o := .lst [V.ref a0]) hrp
      have E3 := Le.new (o := .dK []) hsp
      have E4 := E3.mut hsp (o := .dK (mergeK [] [(Sum.inr n, .bl true)])) upd_same rfl
      have F0 : Srch U n H (upd (upd (upd (upd H a0 (.lst [V.str n])) rp (.lst [V.ref a0])) sp (.dK [])) sp (.dK (mergeK [] [(Sum.inr n, .bl true)]))) rp sp [n] [[n]] [V.ref a0] := by
        refine ⟨(E1.trans E2).trans E4, (E1.trans E2).fr0 hsp, E4.at upd_same, .cons ⟨a0, rfl, (E2.trans E4).at upd_same⟩ .nil, upd_same, by simp, fun x hx => by rw [List.mem_singleton.mp hx]; exact hn, fun r hr => ?_, Nat.le_refl _⟩
        rw [List.mem_singleton.mp hr]
        exact ⟨⟨[], n, rfl, hn, .refl _, fun y hy => by rw [List.mem_singleton.mp hy]; exact hn⟩, Nat.le_refl _⟩
      refine ⟨fun q σ Hc => ∃ rp sp s rds rs v5 v6 v7, σ = [some (.ref t), some (.str n), some (.str m), some (.ref rp), some (.ref sp), v5, v6, v7] ∧ Srch U n H Hc rp sp s rds rs ∧ q = 2 * (U.names.length - s.length) + (if rds.length = 0 then 0 else 1), ⟨_, rp, sp, [n], [[n]], _, none, none, none, rfl, F0, rfl⟩, ?_⟩
      rintro q σ Hc ⟨rp, sp, s, rds, rs, v5, v6, v7, rfl, F, rfl⟩
      have hsl : s.length ≤ U.names.length := length_le_of_nodup_of_subset _ _ F.nd F.sn
      have hnz := ok.sz
      refine ⟨_, rfl, (by decide : 0 ≤ sizeLine), fun e he => ?_⟩
      have E5 := Le.new (o := .lst []) he
      have F1 := F.mono E5
      have shR : SeqAt.shaped (.list (rds.map dR)) = true := shaped_R fun r hr y hy => by
        obtain ⟨_, _, _, _, _, g⟩ := (F.gd r hr).1
        exact nm_ok (ok.nms y (g y hy))
      refine ⟨.list (rds.map dR), .list [], .lst (SqL.of F1.hr) (dpAll_R F1.pr), .lst (SqL.of (xs := []) upd_same) .nil, shR, by kernel_rfl, _, rfl, ?_⟩
      cases hrds : rds with
      | nil =>
        refine iteF ?_
        exact k _ F1.le
      | cons rd0 rdt =>
        have hrl : rds.length ≠ 0 := by rw [hrds]; simp
        refine iteT ⟨fun σ' H' => ∃ q', q' < 2 * (U.names.length - s.length) + (if (rd0 :: rdt).length = 0 then 0 else 1) ∧ ∃ rp sp s rds rs v5 v6 v7, σ' = [some (.ref t), some (.str n), some (.str m), some (.ref rp), some (.ref sp), v5, v6, v7] ∧ Srch U n H H' rp sp s rds rs ∧ q' = 2 * (U.names.length - s.length) + (if rds.length = 0 then 0 else 1), fun σ' H' z => z, ?_⟩
        rw [← hrds]
        rw [if_neg hrl]
        clear hrds
        generalize hHw : upd Hc e (.lst []) = Hw at F1
        refine ⟨_, rfl, rp, rfl, ⟨_, SqL.of F1.hr⟩, fun D hD => ?_⟩
        have hlen := Paired.length F1.pr
        refine it_out (walk_list (K := K) (a := rp) (xs := rs)) (fun i H' => Le Hw H' ∧ ∃ ls rl, H' D = some (.lst ls) ∧ Paired (fun r v => ∃ a, v = .ref a ∧ a ≠ D ∧ H' a = some (.lst (vS r))) rl ls ∧ (∀ r ∈ rl, Good U n r ∧ r.length ≤ s.length + 1) ∧ ls.length ≤ i * 200) ⟨Le.new hD, [], [], upd_same, .nil, fun r hr => (by cases hr), Nat.zero_le _⟩ (fun i H' _ p => SqL.of (p.1.at F1.hr)) ?_ ?_
        · rintro i x Ha Hb hi ⟨e1, ls, rl, h1, h2, h3, h4⟩ ⟨rfl, hx⟩
          have hip : i < rds.length := by omega
          obtain ⟨b, hb, a, rfl, ha⟩ := Paired.at F1.pr (List.getElem?_eq_getElem hip)
          rw [hx] at hb
          cases hb
          obtain ⟨⟨r0, z, hr0, hz, hrz, hall⟩, hlr⟩ := F1.gd _ (List.getElem_mem hip)
          generalize hrd : rds[i] = rd at ha hr0 hall hlr
          have ha1 := e1.at ha
          have e01 := F1.le.trans e1
          refine ⟨rfl, _, rfl, t, dx, _, rfl, e01.at ht, fsT_no_next_of, _, rfl, 1, rfl, a, _, -1, .str z, rfl, rfl, SqL.of ha1, by rw [hr0]; exact at_last r0 z, t, U, z, rfl, R.mono e01, ok, hz, fun p H2 e2 fp hp => ⟨p, rfl, ⟨_, SqL.of hp⟩, ?_⟩⟩
          have pD : D ≠ p := fp.ne h1
          have hn120 := ok.next_120 hz
          have hi20 : i ≤ 20 := by have := F1.rl; omega
          refine it_out (ws_list (K := K) (a := p) (l := U.next z)) (fun j H' => Le Hw H' ∧ H' p = some (.lst (vS (U.next z))) ∧ ∃ ls rl, H' D = some (.lst ls) ∧ Paired (fun r v => ∃ a, v = .ref a ∧ a ≠ D ∧ H' a = some (.lst (vS r))) rl ls ∧ (∀ r ∈ rl, Good U n r ∧ r.length ≤ s.length + 1) ∧ ls.length ≤ i * 200 + j) ⟨e1.trans e2, hp, ls, rl, e2.at h1, Paired.mapP h2 fun _ _ ⟨a, x1, x2, x3⟩ => ⟨a, x1, x2, e2.at x3⟩, h3, h4⟩ (fun j H' _ q => SqL.of q.2.1) ?_ ?_
          · rintro j y Hc2 Hd hj ⟨e3, e4, ls, rl, g1, g2, g3, g4⟩ ⟨rfl, x', hx', rfl⟩
            have hx'n : x' ∈ U.next z := List.mem_of_getElem? hx'
            have hsz : (vS rd ++ [V.str x']).length ≤ sizeLine := sz5 (by rw [List.length_append, vS_len]; show _ + 1 ≤ _; omega)
            refine ⟨rfl, _, rfl, a, vS rd, rfl, .inr (SqL.of (e3.at ha)), _, rfl, hsz, fun q hq => ?_⟩
            have E6 := Le.new (o := .lst (vS rd ++ [V.str x'])) hq
            have qD : q ≠ D := fun z => by rw [z, g1] at hq; cases hq
            refine ⟨ls, E6.at g1, sz5' (by omega), (e3.trans E6).mut hD (E6.at g1) rfl, ?_, _, rl ++ [rd ++ [x']], upd_same, ?_, fun r hr => ?_, by rw [List.length_append]; show _ + 1 ≤ _; omega⟩
            · rw [upd_ne pD.symm]
              exact E6.at e4
            · refine Paired.snoc (Paired.mapP g2 fun _ _ ⟨a, x1, x2, x3⟩ => ⟨a, x1, x2, by rw [upd_ne x2]; exact E6.at x3⟩) ⟨q, rfl, qD, ?_⟩
              rw [upd_ne qD, upd_same, vS_app]
              rfl
            · rcases List.mem_append.mp hr with w1 | w1
              · exact g3 r w1
              · rw [List.mem_singleton.mp w1]
                refine ⟨⟨rd, x', rfl, ok.next_in hz hx'n, .tail hrz hx'n, fun y hy => ?_⟩, by rw [List.length_append]; show _ + 1 ≤ _; omega⟩
                rcases List.mem_append.mp hy with w2 | w2
                · exact hall y w2
                · rw [List.mem_singleton.mp w2]; exact ok.next_in hz hx'n
          · rintro Hd ⟨e3, e4, ls, rl, g1, g2, g3, g4⟩
            exact ⟨e3, ls, rl, g1, g2, g3, by rw [Nat.succ_mul]; omega⟩
        · rintro Hd ⟨e1, ls, rl, g1, g2, g3, g4⟩
          have e0d := F1.le.trans e1
          show gName 6 _ _ _ _
          refine ⟨(by decide : 0 ≤ sizeLine), fun rp2 hrp2 => ?_⟩
          have frp2 : Fre H rp2 := e0d.fr0 hrp2
          have hs1 := e1.at F1.hs
          show gName 3 _ _ _ _
          have hrlen := Paired.length g2
          have nsp : sp ≠ rp2 := fun z => by rw [← z, hs1] at hrp2; cases hrp2
          have nD2 : D ≠ rp2 := fun z => by rw [← z, g1] at hrp2; cases hrp2
          refine ⟨_, rfl, D, rfl, ⟨ls, SqL.of (by rw [upd_ne nD2]; exact g1)⟩, ?_⟩
          refine for_it (walk_list (K := K) (a := D) (xs := ls)) (fun j σ Hc => ∃ v5 v7 s2 rds2 rs2, σ = [some (.ref t), some (.str n), some (.str m), some (.ref rp2), some (.ref sp), v5, some (.ref D), v7] ∧ Le H Hc ∧ (∀ b ys, Hd b = some (.lst ys) → Hc b = some (.lst ys)) ∧ Hc rp2 = some (.lst rs2) ∧ Paired (fun r v => RdAt Hd v r) rds2 rs2 ∧ Hc sp = some (.dK (kvT s2)) ∧ s2.Nodup ∧ (∀ x ∈ s2, x ∈ U.names) ∧ s2.length = s.length + rds2.length ∧ ∀ r ∈ rds2, Good U n r ∧ r.length ≤ s.length + 1)
            ⟨v5, v7, s, [], [], rfl, e0d.trans (Le.new hrp2), fun b ys hb => (Le.new hrp2).at hb, upd_same, .nil, (Le.new hrp2).at hs1, F1.nd, F1.sn, rfl, fun r hr => by cases hr⟩ (fun j σ H' _ ⟨_, _, _, _, _, _, _, q, _⟩ => SqL.of (q D _ g1)) ?_ ?_
          · rintro j x σ Ha Hb hj ⟨v5, v7, s2, rds2, rs2, rfl, f1, f2, f3, f4, f5, f6, f7, f8, f9⟩ ⟨rfl, hx⟩
            have hjr : j < rl.length := by omega
            obtain ⟨b, hb, a, rfl, _, ha⟩ := Paired.at g2 (List.getElem?_eq_getElem hjr)
            rw [hx] at hb
            cases hb
            obtain ⟨⟨r0, z, hr0, hz, hrz, hall⟩, hlr⟩ := g3 _ (List.getElem_mem hjr)
            generalize hrd : rl[j] = rd at ha hr0 hall hlr
            have hab := f2 _ _ ha
            have hal : atI (vS rd) (-1) = some (.str z) := by rw [hr0]; exact at_last r0 z
            have hs2 := length_le_of_nodup_of_subset _ _ f6 f7
            refine ⟨_, rfl, 1, rfl, a, _, -1, .str z, rfl, rfl, SqL.of hab, hal, _, rfl, rfl, _, rfl, ?_⟩
            rw [decide_eq_false (show ¬ V.str z = V.str m from fun q => hno (by rw [← V.str.inj q]; exact hrz))]
            obtain ⟨o, ho, hos⟩ := seen_in f5 z
            refine iteF ⟨_, rfl, 1, rfl, a, _, -1, .str z, rfl, rfl, SqL.of hab, hal, _, rfl, sp, o, rfl, ho, _, rfl, ?_⟩
            rw [hos]
            cases hc : s2.contains z with
            | true => exact iteF ⟨_, _, s2, rds2, rs2, rfl, f1, f2, f3, f4, f5, f6, f7, f8, f9⟩
            | false =>
              have hzs : z ∉ s2 := fun q => by rw [List.contains_iff_mem.mpr q] at hc; cases hc
              refine iteT ⟨_, rfl, _, rfl, 1, rfl, a, _, -1, .str z, rfl, rfl, SqL.of hab, hal, sp, _, rfl, .inl ⟨kvT s2, Sum.inr z, f5, rfl, sz5' (by rw [kvT_len]; omega), rfl⟩, ?_⟩
              rw [kvT_new hzs]
              have h3 : upd Hb sp (.dK (kvT (s2 ++ [z]))) rp2 = some (.lst rs2) := by rw [upd_ne nsp.symm]; exact f3
              have hl2 := Paired.length f4
              refine ⟨_, rfl, .inl ⟨rfl, _, SqL.of h3⟩, _, rfl, rp2, _, _, rfl, rfl, h3, sz5' (by omega), ?_⟩
              refine ⟨_, _, s2 ++ [z], rds2 ++ [rd], rs2 ++ [.ref a], rfl, (f1.mutF F.fsp f5 rfl).mutF frp2 h3 rfl, fun b ys hb => ?_, upd_same, Paired.snoc f4 ⟨a, rfl, ha⟩, ?_, ?_, fun x hx => ?_, ?_, fun r hr => ?_⟩
              · rw [upd_ne (fun q => by rw [q, hrp2] at hb; cases hb), upd_ne (fun q => by rw [q, hs1] at hb; cases hb)]
                exact f2 b ys hb
              · rw [upd_ne nsp, upd_same]
              · rw [List.nodup_append]
                refine ⟨f6, by simp, fun x hx y hy => ?_⟩
                rw [List.mem_singleton.mp hy]
                exact fun q => hzs (by rw [← q]; exact hx)
              · rcases List.mem_append.mp hx with q | q
                · exact f7 x q
                · rw [List.mem_singleton.mp q]; exact hz
              · rw [List.length_append, List.length_append, f8]
                show _ + _ + 1 = _ + (_ + 1)
                omega
              · rcases List.mem_append.mp hr with q | q
                · exact f9 r q
                · rw [List.mem_singleton.mp q]
                  exact ⟨⟨r0, z, hr0, hz, hrz, hall⟩, hlr⟩
          · rintro σ Hc ⟨v5, v7, s2, rds2, rs2, rfl, f1, f2, f3, f4, f5, f6, f7, f8, f9⟩
            have hs2 := length_le_of_nodup_of_subset _ _ f6 f7
            refine ⟨2 * (U.names.length - s2.length) + (if rds2.length = 0 then 0 else 1), ?_, rp2, sp, s2, rds2, rs2, _, _, _, rfl, ⟨f1, F.fsp, f3, Paired.mapP f4 fun _ _ ⟨a, x1, x2⟩ => ⟨a, x1, f2 _ _ x2⟩, f5, f6, f7, fun r hr => ⟨(f9 r hr).1, ?_⟩, by omega⟩, rfl⟩
            · split <;> omega
            · have := (f9 r hr).2
              have hp := List.length_pos_of_mem hr
              omega
  exact ⟨⟨_, fd, G, T.m_Table_shortest_road, T.cl_Table, F.bindsN (ps := ["self", "name", "other"]) fun _ _ _ _ _ _ us hl => match us, hl with | [_, _, _], _ => rfl⟩⟩

theorem sc_Table_ring_by : FnScope ["self", "name", "other", "road"] ["self", "name", "other"] (defScope s_Table_ring_by) := ⟨rfl, rfl, rfl, by decide +kernel, rfl, by decide +kernel, by decide +kernel⟩
theorem ok_Table_ring_by (T : Tx K mg) (c_Table_shortest_road : CalM P w K mg base cTable "shortest_road" 4 ["self", "name", "other"] spShort) : CalM P w K mg base cTable "ring_by" 5 ["self", "name", "other"] spRing := by
  obtain ⟨fd, F⟩ := T.fn _ fi_Table_ring_by
  have G : FnOk P w K mg base CX0 5 d_Table_ring_by.f fd ["self", "name", "other"] spRing := by
    refine F.ok sc_Table_ring_by (fun vs H Q E h => ?_) (fun cdv A outer s H vs Q E hr h => ⟨_, PSs.nox (X := cxOf CX0 P w K mg base _ _ _ _ cdv A outer s H E) ((pss_cons (ps_if (pt_cmpR op_eq (pv 1) (pv 2) (nomark _)) (pss_one (ps_ret (pe_lst (pa_cons (pv 1) (pa_cons (pv 1) pa_nil))))) pss_nil)
    (pss_cons (ps_set (i := 3) sc_Table_ring_by.nd rfl (Or.inl rfl) (pm c_Table_shortest_road hr (pv 0) (pa_cons (pv 2) (pa_cons (pv 1) pa_nil))))
    (pss_one (ps_ret (pe_ifExp (pt_cmpR op_isN (pv 3) pe_non (nomark _)) pe_non (pe_lst (pa_cons (pv 1) (wstar K (pv 3) pa_nil))))))))), ?_⟩)
    · obtain ⟨_, _, _, _, rfl, _⟩ := h
      rfl
    · obtain ⟨t, U, n, m, rfl, R, ok, hn, hm, hno, k⟩ := h
      obtain ⟨dx, r, nb, ll, mk, ht⟩ := R.ins
      have hne : n ≠ m := fun z => hno (by rw [z]; exact .refl _)
      refine ⟨_, rfl, _, rfl, rfl, _, rfl, ?_⟩
      rw [decide_eq_false (show ¬ V.str n = V.str m from fun z => hne (V.str.inj z))]
      refine iteF ⟨_, rfl, t, dx, _, rfl, ht, fsT_no_shortest_road, _, rfl, _, rfl, t, U, m, n, rfl, R, ok, hm, hn, hno, fun H1 e1 => ?_⟩
      show gName 3 _ _ _ _
      exact ⟨_, rfl, rfl, _, rfl, iteT (k H1 e1)⟩
  exact ⟨⟨_, fd, G, T.m_Table_ring_by, T.cl_Table, F.bindsN (ps := ["self", "name", "other"]) fun _ _ _ _ _ _ us hl => match us, hl with | [_, _, _], _ => rfl⟩⟩

end
end Sw
set_option linter.all false
set_option maxRecDepth 100000
set_option maxHeartbeats 2000000
/-! Own rules, third part: star defs. -/
namespace Sw
open PySem PySem.Spec PyProof.Rows L2 LamX
structure CalMR (P : Program) (w : World) (K : PySem.W.Frag) (mg : Str → Option Value) (base : Heap) (C : Addr) (m : Str) (k : Nat) (sp : Sp) : Prop where
  ex : ∃ f, FnR P w K mg base CX0 k f sp ∧ Meth K C m f ∧ Cls K C
def starSp (n : Nat) (sp : Sp) : Sp := fun vs H Q E => ∃ ws rest, vs = ws ++ rest ∧ ws.length = n ∧ rest.length ≤ sizeLine ∧ ∀ p, H p = none → sp (ws ++ [V.ref p]) (upd H p (.tup rest)) Q E
theorem cxUp0 : StX.CXUp CX0 := fun _ _ _ _ _ _ _ _ _ _ _ z => z
theorem pmR {X : Cx} {k : Nat} {C : Addr} {m : Str} {sp : Sp} {o e : Expr} {es : List Expr} {ta : TE} {t : TA} {apos pos : Pos} {pl : Sem Bool} (F : CalMR X.prog X.w X.K X.mg X.base C m k sp) (hr : Room k X.A) (he : PE X o ta) (ha : PA X (e :: es) t)
    (hst : starEach (e :: es) X.env = (false, eval e X.env) :: starEach es X.env := by rfl) (hpl : (backTo pos (starEach es X.env)).any (·.1) = false := by rfl)
    (ht : eval (.Call (.Attribute o m apos) (e :: es) [] pos) X.env = (do
      let ov ← eval o X.env
      standAt apos.atName
      let (f, first) ← holding [ov] (getMethod ov m pl)
      callWith pos f first (backTo pos (starEach (e :: es) X.env)) (backToKw pos (keywordEach [] X.env))) := by rfl) :
    PE X (.Call (.Attribute o m apos) (e :: es) [] pos) (tMethR C m sp E0 ta t) := by
  obtain ⟨f, F, g, c⟩ := F.ex
  exact pe_methR he c g F hr pass0 ha hst hpl ht
end Sw
set_option linter.all false
set_option maxRecDepth 100000
set_option maxHeartbeats 4000000
/-! SwF15: admissions. Terms printed by gen_term.py. -/
namespace Sw
open PySem PySem.Spec PyProof.Rows L2 LamX
section
variable {P : Program} {w : World} {K : PySem.W.Frag} {mg : Str → Option Value} {base : Heap}


theorem fsT_no_ring {r nb l : Addr} {i : Int} : (fsT r nb l i).lookup ("ring_by" : Str) = none := by kernel_rfl
section
variable {t ca vi th ch : Addr}
theorem fsW_no_look : (fsW t ca vi th ch).lookup ("look" : Str) = none := by kernel_rfl
theorem fsW_no_look_registration : (fsW t ca vi th ch).lookup ("look_registration" : Str) = none := by kernel_rfl
theorem fsW_no_refresh : (fsW t ca vi th ch).lookup ("refresh" : Str) = none := by kernel_rfl
theorem fsW_no_make : (fsW t ca vi th ch).lookup ("make" : Str) = none := by kernel_rfl
theorem fsW_no_admit : (fsW t ca vi th ch).lookup ("admit" : Str) = none := by kernel_rfl
end
def spLook : Sp := fun vs H Q _ => ∃ w U p ns, vs = [.ref w, .ref p] ∧ WorldAt H w U ∧ U.Ok ∧ H p = some (.tup (vS ns)) ∧ (∀ n ∈ ns, n ∈ U.names) ∧ ∀ H', Le H H' → Q .non H'
def spLookReg : Sp := fun vs H Q _ => ∃ w U a b, vs = [.ref w, .str a, .str b] ∧ WorldAt H w U ∧ U.Ok ∧ a ∈ U.names ∧ b ∈ U.names ∧ U.sworn a = true ∧ ¬ U.Rn b a ∧ ∀ H', Le H H' → Q .non H'
/-- a registration more -/
def Tb.reg1 (U : Tb) (a b : Str) : Tb := { U with ls := fun n => if n = a then (if (U.ls n).contains b = true then U.ls n else U.ls n ++ [b]) else U.ls n }
def spAdmit : Sp := fun vs H Q _ => ∃ w U a b H0, vs = [.ref w, .str a, .str b] ∧ Le H0 H ∧ WldF H0 H w U ∧ U.Ok ∧ a ∈ U.names ∧ b ∈ U.names ∧ U.sworn a = true ∧ ¬ U.Rn b a ∧ ∀ v H', Le H0 H' → WldF H0 H' w (U.reg1 a b) → Q v H'

theorem sc_World_look : FnScope ["self", "names", "name"] ["self", "names"] (defScope s_World_look) := ⟨rfl, rfl, rfl, by decide +kernel, rfl, by decide +kernel, by decide +kernel⟩
theorem ok_World_look (T : Tx K mg) (c_Table_has : CalM P w K mg base cTable "has" 1 ["self", "name"] spTHas) : CalMR P w K mg base cWorld "look" 3 (starSp 1 spLook) := by
  obtain ⟨fd, F⟩ := T.fn _ fi_World_look
  obtain ⟨oc, od, dV, kV, doc, pmv, an, cdv, ct, osl, rfl, lk, hcd, hD, _⟩ := F.ex
  obtain ⟨_, rfl⟩ : ([] : List V) = [] ∧ dV = .none := hD.elim id fun z => absurd rfl z.1
  have G : FnR P w K mg base CX0 3 d_World_look.f (starSp 1 spLook) := by
    refine StX.fn_star (ps := ["self"]) (pv := "names") (N := ["self", "names", "name"]) (sp := spLook) lk hcd sc_World_look cxUp0 (StX.bind_star1 (B := fun us => bindArgs (PySem.W.fnOf d_World_look.name d_World_look.qual d_World_look.params d_World_look.body d_World_look.scope .none kV doc pmv an cdv ct) ⟨us, []⟩) (fun a => rfl) (fun a r rs => rfl)) (fun A outer s H vs Q E hr h => ⟨_, PSs.nox (X := cxOf CX0 P w K mg base _ _ _ _ cdv A outer s H E) ((pss_one (ps_for PassesOwn.never rfl (witup K (pv 1)) (pg_name (i := 2) sc_World_look.nd rfl (Or.inl rfl)) (pss_one (ps_if (pt_not (pt_val (pm c_Table_has (hr.mono (by decide : 1 ≤ _)) (wfld K (pv 0) rfl) (pa_cons (pv 2) pa_nil)))) (pss_one ps_never) pss_nil))))), ?_⟩)
    · obtain ⟨w, U, p, ns, rfl, W, ok, hp, hin, k⟩ := h
      obtain ⟨dxw, t, ca, vi, th, ch, hw, R⟩ := W.ex
      obtain ⟨dx, r, nb, ll, mk, ht⟩ := R.ins
      refine ⟨_, rfl, p, rfl, ⟨_, SqT.of hp⟩, ?_⟩
      refine for_it (ws_tup (K := K) (a := p) (l := ns)) (fun i σ H' => Le H H' ∧ ∃ v2, σ = [some (.ref w), some (.ref p), v2]) ⟨Le.refl _, none, rfl⟩ (fun i σ H' _ q => SqT.of (q.1.at hp)) ?_ ?_
      · rintro i x σ Ha Hb hi ⟨e, v2, rfl⟩ ⟨rfl, z, hz, rfl⟩
        have hzn := hin z (List.mem_of_getElem? hz)
        refine ⟨_, rfl, _, cWorld, dxw, _, _, rfl, e.at hw, T.cl_World, T.n_World_table, fsW_table, t, dx, _, rfl, e.at ht, fsT_no_has, _, rfl, t, U, z, rfl, R.mono e, fun H1 e1 => ⟨_, rfl, ?_⟩⟩
        rw [List.contains_iff_mem.mpr hzn]
        exact iteF ⟨e.trans e1, _, rfl⟩
      · exact fun σ H' q => k H' q.1
  exact ⟨_, G, T.m_World_look, T.cl_World⟩

theorem sc_World_look_registration : FnScope ["self", "cls", "other", "ring"] ["self", "cls", "other"] (defScope s_World_look_registration) := ⟨rfl, rfl, rfl, by decide +kernel, rfl, by decide +kernel, by decide +kernel⟩
theorem ok_World_look_registration (T : Tx K mg) (c_World_look : CalMR P w K mg base cWorld "look" 3 (starSp 1 spLook)) (c_Table_sworn : CalM P w K mg base cTable "sworn" 2 ["self", "name"] spTSworn) (c_Table_ring_by : CalM P w K mg base cTable "ring_by" 5 ["self", "name", "other"] spRing) : CalM P w K mg base cWorld "look_registration" 6 ["self", "cls", "other"] spLookReg := by
  obtain ⟨fd, F⟩ := T.fn _ fi_World_look_registration
  have G : FnOk P w K mg base CX0 6 d_World_look_registration.f fd ["self", "cls", "other"] spLookReg := by
    refine F.ok sc_World_look_registration (fun vs H Q E h => ?_) (fun cdv A outer s H vs Q E hr h => ⟨_, PSs.nox (X := cxOf CX0 P w K mg base _ _ _ _ cdv A outer s H E) ((pss_cons (ps_expr (pmR c_World_look (hr.mono (by decide : 3 ≤ _)) (pv 0) (pa_cons (pv 1) (pa_cons (pv 2) pa_nil))))
    (pss_cons (ps_if (pt_not (pt_val (pm c_Table_sworn (hr.mono (by decide : 2 ≤ _)) (wfld K (pv 0) rfl) (pa_cons (pv 1) pa_nil)))) (pss_one ps_never) pss_nil)
    (pss_cons (ps_set (i := 3) sc_World_look_registration.nd rfl (Or.inl rfl) (pm c_Table_ring_by hr (wfld K (pv 0) rfl) (pa_cons (pv 1) (pa_cons (pv 2) pa_nil))))
    (pss_one (ps_if (pt_cmpR op_notN (pv 3) pe_non (nomark _)) (pss_one ps_never) pss_nil)))))), ?_⟩)
    · obtain ⟨_, _, _, _, rfl, _⟩ := h
      rfl
    · obtain ⟨w, U, a, b, rfl, W, ok, ha, hb, hs, hno, k⟩ := h
      obtain ⟨dxw, t, ca, vi, th, ch, hw, R⟩ := W.ex
      obtain ⟨dx, r, nb, ll, mk, ht⟩ := R.ins
      refine ⟨_, rfl, w, dxw, _, rfl, hw, fsW_no_look, _, rfl, _, rfl, [.ref w], [.str a, .str b], rfl, rfl, (by decide : 2 ≤ sizeLine), fun p hp => ?_⟩
      have e0 := Le.new (o := .tup [.str a, .str b]) hp
      refine ⟨w, U, p, [a, b], rfl, W.mono e0, ok, upd_same, fun n hn => ?_, fun H1 e1 => ?_⟩
      · rcases List.mem_cons.mp hn with z | z
        · rw [z]; exact ha
        · rw [List.mem_singleton.mp z]; exact hb
      have e01 := e0.trans e1
      refine ⟨_, rfl, _, cWorld, dxw, _, _, rfl, e01.at hw, T.cl_World, T.n_World_table, fsW_table, t, dx, _, rfl, e01.at ht, fsT_no_sworn, _, rfl, t, U, a, rfl, R.mono e01, ok, ha, fun H2 e2 => ⟨_, rfl, ?_⟩⟩
      rw [hs]
      have e02 := e01.trans e2
      refine iteF ⟨_, rfl, _, cWorld, dxw, _, _, rfl, e02.at hw, T.cl_World, T.n_World_table, fsW_table, t, dx, _, rfl, e02.at ht, fsT_no_ring, _, rfl, _, rfl, t, U, a, b, rfl, R.mono e02, ok, ha, hb, hno, fun H3 e3 => ?_⟩
      show gName 3 _ _ _ _
      exact ⟨_, rfl, rfl, _, rfl, iteF (k H3 (e02.trans e3))⟩
  exact ⟨⟨_, fd, G, T.m_World_look_registration, T.cl_World, F.bindsN (ps := ["self", "cls", "other"]) fun _ _ _ _ _ _ us hl => match us, hl with | [_, _, _], _ => rfl⟩⟩

theorem sc_World_admit : FnScope ["self", "cls", "other"] ["self", "cls", "other"] (defScope s_World_admit) := ⟨rfl, rfl, rfl, by decide +kernel, rfl, by decide +kernel, by decide +kernel⟩
theorem ok_World_admit (T : Tx K mg) (c_World_look_registration : CalM P w K mg base cWorld "look_registration" 6 ["self", "cls", "other"] spLookReg) (c_Table_add_registration : CalM P w K mg base cTable "add_registration" 1 ["self", "name", "other"] spAddR) (c_World_refresh : CalM P w K mg base cWorld "refresh" 4 ["self"] spWRef) : CalM P w K mg base cWorld "admit" 7 ["self", "cls", "other"] spAdmit := by
  obtain ⟨fd, F⟩ := T.fn _ fi_World_admit
  have G : FnOk P w K mg base CX0 7 d_World_admit.f fd ["self", "cls", "other"] spAdmit := by
    refine F.ok sc_World_admit (fun vs H Q E h => ?_) (fun cdv A outer s H vs Q E hr h => ⟨_, PSs.nox (X := cxOf CX0 P w K mg base _ _ _ _ cdv A outer s H E) ((pss_cons (ps_expr (pm c_World_look_registration hr (pv 0) (pa_cons (pv 1) (pa_cons (pv 2) pa_nil))))
    (pss_cons (ps_expr (pm c_Table_add_registration (hr.mono (by decide : 1 ≤ _)) (wfld K (pv 0) rfl) (pa_cons (pv 1) (pa_cons (pv 2) pa_nil))))
    (pss_cons (ps_expr (pm0 c_World_refresh (hr.mono (by decide : 4 ≤ _)) (pv 0)))
    (pss_one (ps_ret (pv 2))))))), ?_⟩)
    · obtain ⟨_, _, _, _, _, rfl, _⟩ := h
      rfl
    · obtain ⟨w, U, a, b, H0, rfl, e0, W, ok, ha, hb, hs, hno, k⟩ := h
      obtain ⟨dxw', t', ca', vi', th', ch', hw', R⟩ := W.at_.ex
      refine ⟨_, rfl, w, dxw', _, rfl, hw', fsW_no_look_registration, _, rfl, _, rfl, w, U, a, b, rfl, W.at_, ok, ha, hb, hs, hno, fun H1 e1 => ?_⟩
      obtain ⟨t, dx, r, nb, l, mk, ad, lf, mf, la, X⟩ := (W.mono e1).ex
      obtain ⟨dxw, ca, vi, th, ch, dxc, kp, h1, h2, h3, h4, h5, h6, h7, h8, h9⟩ := X.hw
      have hA := X.tx.hls a ha
      have hzz := ok.rsz a ha
      refine ⟨_, rfl, _, cWorld, dxw, _, _, rfl, h1, T.cl_World, T.n_World_table, fsW_table, t, dx, _, rfl, X.tx.ht, fsT_no_add_registration, _, rfl, _, rfl, t, a, b, dx, r, nb, l, mk, la, U, rfl, X.tx.ht, X.tx.hl, ha, hA, by omega, fun hm => ?_, fun hm => ?_⟩
      · refine ⟨_, rfl, w, dxw, _, rfl, h1, fsW_no_refresh, w, U.reg1 a b, H0, rfl, e0.trans e1, ?_, fun H2 e2 W2 => ⟨_, rfl, k _ H2 e2 W2⟩⟩
        have eU : U.reg1 a b = U := by
          unfold Tb.reg1
          congr 1
          funext n
          split
          · rename_i z
            rw [z, List.contains_iff_mem.mpr hm, if_pos rfl]
          · rfl
        rw [eU]
        exact ⟨t, dx, r, nb, l, mk, ad, lf, mf, la, X⟩
      · have nl : ∀ {q : Addr} {o : HO}, H1 q = some o → (∀ ys, o ≠ .lst ys) → upd H1 (la a) (.lst (vS (U.ls a ++ [b]))) q = H1 q := fun h n => upd_ne (fun z => by rw [z, hA] at h; exact n _ (Option.some.inj h).symm)
        have e02 : Le H0 (upd H1 (la a) (.lst (vS (U.ls a ++ [b])))) := (e0.trans e1).mutF (X.tx.fla a ha) hA rfl
        have hw2 := (nl h1 (fun ys z => by cases z)).trans h1
        refine ⟨_, rfl, w, dxw, _, rfl, hw2, fsW_no_refresh, w, U.reg1 a b, H0, rfl, e02, ⟨t, dx, r, nb, l, mk, ad, lf, mf, la, ⟨dxw, ca, vi, th, ch, dxc, kp, hw2, (nl h2 (fun ys z => by cases z)).trans h2, (nl h3 (fun ys z => by cases z)).trans h3, (upd_ne (h9 a ha).symm).trans h4, h5, h6, h7, h8, h9⟩, ?_⟩, fun H2 e2 W2 => ⟨_, rfl, k _ H2 e2 W2⟩⟩
        obtain ⟨kv, hkv, hkz⟩ := X.tx.hn
        refine ⟨(nl X.tx.ht (fun ys z => by cases z)).trans X.tx.ht, (nl X.tx.hr (fun ys z => by cases z)).trans X.tx.hr, fun n hn => ?_, ⟨kv, (nl hkv (fun ys z => by cases z)).trans hkv, hkz⟩, (nl X.tx.hl (fun ys z => by cases z)).trans X.tx.hl, fun n hn => ?_, X.tx.ft, X.tx.fr, X.tx.fnb, X.tx.fl, X.tx.fla, X.tx.inj, X.tx.sep, X.tx.d1, X.tx.d2, X.tx.d3, X.tx.dm⟩
        · have hE := X.tx.he n hn
          obtain ⟨_, _, _, _, _, hmm, _, _⟩ := id hE
          exact hE.keep (KeepI.upd hA rfl) (upd_ne (X.tx.sep n hn a ha)) (nl hmm (fun ys z => by cases z))
        · have hcf : (U.ls a).contains b = false := Bool.eq_false_iff.mpr fun z => hm (List.contains_iff_mem.mp z)
          show _ = some (HO.lst (vS (if n = a then (if (U.ls n).contains b = true then U.ls n else U.ls n ++ [b]) else U.ls n)))
          by_cases hna : n = a
          · subst hna
            rw [if_pos rfl, hcf, if_neg Bool.false_ne_true, upd_same]
          · rw [if_neg hna, upd_ne (fun z => hna (X.tx.inj n hn a ha z))]
            exact X.tx.hls n hn
  exact ⟨⟨_, fd, G, T.m_World_admit, T.cl_World, F.bindsN (ps := ["self", "cls", "other"]) fun _ _ _ _ _ _ us hl => match us, hl with | [_, _, _], _ => rfl⟩⟩

end
end Sw
set_option linter.all false
set_option maxRecDepth 100000
set_option maxHeartbeats 4000000
/-! SwF16: what is looked at when a class is made. Terms printed by gen_term.py. -/
namespace Sw
open PySem PySem.Spec PyProof.Rows L2 LamX
section
variable {P : Program} {w : World} {K : PySem.W.Frag} {mg : Str → Option Value} {base : Heap}


def NM : List Str := Tb.NAMES ++ Tb.METHS
def spIsName : Sp := fun vs H Q _ => ∃ z, vs = [.str z] ∧ z ∈ NM ∧ ∀ H', Le H H' → Q (.bl true) H'
def spIsMark : Sp := fun vs H Q _ => ∃ z, vs = [.str z] ∧ z ∈ Tb.MRKS ∧ ∀ H', Le H H' → Q (.bl true) H'
def spLookMarks : Sp := fun vs H Q _ => ∃ l ms, vs = [.ref l] ∧ RegsAt H l ms ∧ (∀ p ∈ ms, p.1 ∈ Tb.METHS ∧ p.2 ∈ Tb.MRKS) ∧ (ms.map (·.1)).Nodup ∧ ∀ H', Le H H' → Q .non H'
def spCanBe : Sp := fun vs H Q _ => ∃ n l rs ls, vs = [.str n, .ref l] ∧ H l = some (.lst rs) ∧ Paired (fun r v => RdAt H v r) ls rs ∧ ls.length ≤ 100 ∧ (∀ r ∈ ls, r.length ≤ 100) ∧ ∀ H', Le H H' → Q (.bl (ls.all fun r => !(r.drop 1).contains n)) H'
def spLookBases : Sp := fun vs H Q _ => ∃ t U bt bs, vs = [.ref t, .ref bt] ∧ TabAt H t U ∧ H bt = some (.tup (vS bs)) ∧ (∀ b ∈ bs, b ∈ U.names) ∧ bs.Nodup ∧ ∀ H', Le H H' → Q .non H'


def AZ : Str := "abcdefghijklmnopqrstuvwxyz"
def nmB (z : Str) : Bool := decide (1 ≤ z.length) && decide (z.length ≤ 8) && z.cps.toList.all fun c => AZ.cps.toList.contains c
theorem nm_all : NM.all nmB = true := by decide +kernel
theorem nm_len {z : Str} (h : z ∈ NM) : 1 ≤ z.length ∧ z.length ≤ 8 := by
  have q := List.all_eq_true.mp nm_all z h
  unfold nmB at q
  simp only [Bool.and_eq_true, decide_eq_true_eq] at q
  exact q.1
theorem nm_sign {z : Str} (h : z ∈ NM) {i c : Nat} (hc : z.cps[i]? = some c) : c ∈ AZ.cps.toList := by
  have q := List.all_eq_true.mp nm_all z h
  unfold nmB at q
  simp only [Bool.and_eq_true, decide_eq_true_eq] at q
  have hm : c ∈ z.cps.toList := List.mem_of_getElem? (i := i) (by rw [Array.getElem?_toList]; exact hc)
  exact List.contains_iff_mem.mp (List.all_eq_true.mp q.2 c hm)
theorem mrk_in {z : Str} (h : z ∈ Tb.MRKS) : inV (.str z) [.str "plain", .str "abstract", .str "blocked"] = true := by
  have e : inV (.str z) (vS Tb.MRKS) = Tb.MRKS.contains z := inV_vS z Tb.MRKS
  rw [List.contains_iff_mem.mpr h] at e
  exact e

theorem sc_is_name : FnScope ["value", "letter"] ["value"] (defScope s_is_name) := ⟨rfl, rfl, rfl, by decide +kernel, rfl, by decide +kernel, by decide +kernel⟩
theorem ok_is_name (T : Tx K mg)  : Cal P w K mg base "is_name" 1 ["value"] spIsName := by
  obtain ⟨fd, F⟩ := T.fn _ fi_is_name
  have G : FnOk P w K mg base CX0 1 d_is_name.f fd ["value"] spIsName := by
    refine F.ok sc_is_name (fun vs H Q E h => ?_) (fun cdv A outer s H vs Q E hr h => ⟨_, PSs.nox (X := cxOf CX0 P w K mg base _ _ _ _ cdv A outer s H E) ((pss_cons (ps_if (PW.pt (pw_or (pt_not (pt_val (pe_callB (wisi K) (by rfl) T.f_isinstance bb_isinstance (pa_cons (pv 0) (pa_cons (pe_bltn (v := .ty "str") (by rfl) T.f_str bb_str rfl) pa_nil))))) (pw_or1 (pt_not (pt_chain op_le op_le pe_int (pe_callB call_len_str (by rfl) T.f_len bb_len (pa_cons (pv 0) pa_nil)) (pgl T.v_MOST_LETTERS rfl)))))) (pss_one (ps_ret pe_bl)) pss_nil)
    (pss_one (ps_ret (pe_callB (wall K rfl) (by rfl) T.f_all bb_all (pa_cons (pe_lc (own := [("letter", 1)]) rfl sc_is_name.nd (pi_str (pv 0)) (blkOk_by (N := ["value", "letter"]) (sc := defScope s_is_name) (own := [("letter", 1)]) (by decide +kernel)) (fun _ _ _ _ _ => (pg_name (i := 1) sc_is_name.nd rfl (Or.inl rfl))) (fun _ _ _ _ _ => pts_nil) (fun _ _ _ _ _ => (pe_cmpR op_in_sign (pv 1) (pgl T.v_LETTERS rfl) rfl))) pa_nil)))))), ?_⟩)
    · obtain ⟨_, rfl, _⟩ := h
      rfl
    · obtain ⟨z, rfl, hz, k⟩ := h
      obtain ⟨l1, l2⟩ := nm_len hz
      refine ⟨_, rfl, V.str z, .ty "str", _, _, true, rfl, .ty "str", .base (.str z), kit_str, _, rfl, iteF ?_⟩
      refine ⟨_, rfl, z, rfl, sz5 (by omega), _, _, rfl, rfl, _, rfl, ?_⟩
      rw [decide_eq_true (show (1 : Int) ≤ (z.length : Int) by omega)]
      refine iteT ⟨_, _, rfl, rfl, _, rfl, ?_⟩
      rw [decide_eq_true (show (z.length : Int) ≤ 8 by omega)]
      refine iteF ⟨_, rfl, z, rfl, fun D hD => ?_⟩
      have hsz : z.cps.size ≤ 8 := l2
      refine lc_go (walk_str (z := z)) (fun _ i y _ => y = V.bl true) (fun _ => true) (by omega) hD (fun i H x H' y => by rw [y.1]; exact Le.refl _) (fun _ _ => trivial) (fun _ _ _ _ _ h => h) ?_ ?_
      · rintro i x Ha Hb hi e1 e2 ⟨rfl, c, hc, rfl⟩ _ QF QT h1 h2
        refine ⟨rfl, _, rfl, c, AZ, rfl, rfl, ?_⟩
        rw [decide_eq_true (nm_sign hz hc)]
        exact h2 _ _ (Le.refl _) rfl rfl
      · intro ys H2 e1 h1 h2
        have hv := Got.val (v := fun _ => V.bl true) h2
        rw [filter_yes] at hv
        refine ⟨D, (List.range z.cps.size).map fun _ => true, rfl, SqL.of (by rw [h1, hv, List.map_map]; rfl), ?_⟩
        have ea : ((List.range z.cps.size).map fun _ => true).all id = true := by
          rw [List.all_map, List.all_eq_true]
          intro x _
          rfl
        rw [ea]
        exact k H2 e1
  exact ⟨⟨_, fd, G, T.g_is_name, F.kp, F.bindsN (ps := ["value"]) fun _ _ _ _ _ _ us hl => match us, hl with | [_], _ => rfl⟩⟩

theorem sc_is_mark : FnScope ["value"] ["value"] (defScope s_is_mark) := ⟨rfl, rfl, rfl, by decide +kernel, rfl, by decide +kernel, by decide +kernel⟩
theorem ok_is_mark (T : Tx K mg)  : Cal P w K mg base "is_mark" 1 ["value"] spIsMark := by
  obtain ⟨fd, F⟩ := T.fn _ fi_is_mark
  have G : FnOk P w K mg base CX0 1 d_is_mark.f fd ["value"] spIsMark := by
    refine F.ok sc_is_mark (fun vs H Q E h => ?_) (fun cdv A outer s H vs Q E hr h => ⟨_, PSs.nox (X := cxOf CX0 P w K mg base _ _ _ _ cdv A outer s H E) ((pss_one (ps_ret (pe_and (pe_callB (wisi K) (by rfl) T.f_isinstance bb_isinstance (pa_cons (pv 0) (pa_cons (pe_bltn (v := .ty "str") (by rfl) T.f_str bb_str rfl) pa_nil))) (pe_one (pe_cmpR (win K) (pv 0) (pgl T.v_MARKS rfl) rfl)))))), ?_⟩)
    · obtain ⟨_, rfl, _⟩ := h
      rfl
    · obtain ⟨z, rfl, hz, k⟩ := h
      refine ⟨_, rfl, V.str z, .ty "str", _, _, true, rfl, .ty "str", .base (.str z), kit_str, _, rfl, iteT ⟨_, rfl, 281, _, rfl, .inr (T.marks H), rfl, rfl, ?_⟩⟩
      rw [mrk_in hz]
      exact k H (Le.refl _)
  exact ⟨⟨_, fd, G, T.g_is_mark, F.kp, F.bindsN (ps := ["value"]) fun _ _ _ _ _ _ us hl => match us, hl with | [_], _ => rfl⟩⟩

theorem sc_look_marks : FnScope ["marks", "known", "pair"] ["marks"] (defScope s_look_marks) := ⟨rfl, rfl, rfl, by decide +kernel, rfl, by decide +kernel, by decide +kernel⟩
theorem ok_look_marks (T : Tx K mg) (c_is_name : Cal P w K mg base "is_name" 1 ["value"] spIsName) (c_is_mark : Cal P w K mg base "is_mark" 1 ["value"] spIsMark) : Cal P w K mg base "look_marks" 2 ["marks"] spLookMarks := by
  obtain ⟨fd, F⟩ := T.fn _ fi_look_marks
  have G : FnOk P w K mg base CX0 2 d_look_marks.f fd ["marks"] spLookMarks := by
    refine F.ok sc_look_marks (fun vs H Q E h => ?_) (fun cdv A outer s H vs Q E hr h => ⟨_, PSs.nox (X := cxOf CX0 P w K mg base _ _ _ _ cdv A outer s H E) ((pss_cons (ps_set (i := 1) sc_look_marks.nd rfl (Or.inl rfl) (pe_lst pa_nil))
    (pss_one (ps_for PassesOwn.never rfl (wlist K (pv 0)) (pg_name (i := 2) sc_look_marks.nd rfl (Or.inl rfl)) (pss_cons (ps_if (PW.pt (pw_or (pt_not (pt_val (pe_callB (wisi K) (by rfl) T.f_isinstance bb_isinstance (pa_cons (pv 2) (pa_cons (pe_bltn (v := .ty "tuple") (by rfl) T.f_tuple bb_tuple rfl) pa_nil))))) (pw_or (pt_cmpR op_ne (pe_callB (wlen K) (by rfl) T.f_len bb_len (pa_cons (pv 2) pa_nil)) pe_int (nomark _)) (pw_or (pt_not (pt_val (pc c_is_name hr rfl (pa_cons (pe_ix (wixt K) (pv 2) pe_int (fun _ _ => rfl)) pa_nil)))) (pw_or1 (pt_not (pt_val (pc c_is_mark hr rfl (pa_cons (pe_ix (wixt K) (pv 2) pe_int (fun _ _ => rfl)) pa_nil))))))))) (pss_one ps_never) pss_nil)
    (pss_cons (ps_if (pt_cmpR (win K) (pe_ix (wixt K) (pv 2) pe_int (fun _ _ => rfl)) (pv 1) rfl) (pss_one ps_never) pss_nil)
    (pss_one (ps_expr (wapp K (pv 1) (pe_ix (wixt K) (pv 2) pe_int (fun _ _ => rfl))))))))))), ?_⟩)
    · obtain ⟨_, _, rfl, _⟩ := h
      rfl
    · obtain ⟨l, ms, rfl, ⟨rs, hl, hp⟩, hm, hnd, k⟩ := h
      refine ⟨(by decide : 0 ≤ sizeLine), fun kn hkn => ?_⟩
      show gName 1 _ _ _ _
      have e0 := Le.new (o := .lst []) hkn
      have hlen := Paired.length hp
      have hz : ms.length ≤ 5 := by
        have q := length_le_of_nodup_of_subset _ Tb.METHS hnd fun x hx => by
          obtain ⟨p, hp, rfl⟩ := List.mem_map.mp hx
          exact (hm p hp).1
        rw [List.length_map] at q
        exact q
      refine ⟨_, rfl, l, rfl, ⟨rs, SqL.of (e0.at hl)⟩, ?_⟩
      refine for_it (walk_list (K := K) (a := l) (xs := rs)) (fun i σ H' => Le H H' ∧ (∃ v2, σ = [some (.ref l), some (.ref kn), v2]) ∧ H' kn = some (.lst (vS ((ms.take i).map (·.1))))) ⟨e0, ⟨none, rfl⟩, upd_same⟩ (fun i σ H' _ q => SqL.of (q.1.at hl)) ?_ ?_
      · rintro i x σ Ha Hb hi ⟨e, ⟨v2, rfl⟩, hk⟩ ⟨rfl, hx⟩
        have him : i < ms.length := by omega
        obtain ⟨b, hb, a, rfl, ha⟩ := Paired.at hp (List.getElem?_eq_getElem him)
        rw [hx] at hb
        cases hb
        obtain ⟨m1, m2⟩ := hm _ (List.getElem_mem him)
        have ha1 := e.at ha
        have hnew : (ms[i]).1 ∉ (ms.take i).map (·.1) := fun q => by
          obtain ⟨j, hj, ej⟩ := List.mem_iff_getElem.mp q
          rw [List.length_map, List.length_take] at hj
          have hji : j < i := by omega
          rw [List.getElem_map, List.getElem_take] at ej
          have hjl : j < (ms.map (·.1)).length := by rw [List.length_map]; omega
          have him' : i < (ms.map (·.1)).length := by rw [List.length_map]; exact him
          have := (List.getElem?_inj (i := j) (j := i) hjl hnd).mp ((List.getElem?_eq_getElem hjl).trans ((congrArg some (by rw [List.getElem_map, List.getElem_map]; exact ej)).trans (List.getElem?_eq_getElem him').symm))
          omega
        refine ⟨_, rfl, .ref a, .ty "tuple", _, _, true, rfl, .ty "tuple", .base (.tup ha1), kit_tup, _, rfl, iteF ?_⟩
        refine ⟨_, rfl, a, _, rfl, .inr (SqT.of ha1), rfl, _, rfl, iteF ?_⟩
        refine ⟨_, rfl, a, _, 0, .str (ms[i]).1, rfl, rfl, SqT.of ha1, rfl, (ms[i]).1, rfl, List.mem_append_right _ m1, fun H1 e1 => ⟨_, rfl, iteF ?_⟩⟩
        refine ⟨_, rfl, a, _, 1, .str (ms[i]).2, rfl, rfl, SqT.of (e1.at ha1), rfl, (ms[i]).2, rfl, m2, fun H2 e2 => ⟨_, rfl, iteF ?_⟩⟩
        have e12 := e1.trans e2
        refine ⟨_, rfl, a, _, 0, .str (ms[i]).1, rfl, rfl, SqT.of (e12.at ha1), rfl, _, rfl, kn, _, rfl, .inl (SqL.of (e12.at hk)), rfl, vS_flat _, ?_⟩
        rw [inV_vS, show ((ms.take i).map (·.1)).contains (ms[i]).1 = false from Bool.eq_false_iff.mpr fun z => hnew (List.contains_iff_mem.mp z)]
        refine ⟨_, rfl, iteF ⟨_, rfl, .inl ⟨rfl, _, SqL.of (e12.at hk)⟩, _, rfl, a, _, 0, .str (ms[i]).1, rfl, rfl, SqT.of (e12.at ha1), rfl, kn, _, _, rfl, rfl, e12.at hk, sz5' (by rw [vS_len, List.length_map, List.length_take]; omega), ?_⟩⟩
        refine ⟨(e.trans e12).mut hkn (e12.at hk) rfl, ⟨_, rfl⟩, ?_⟩
        rw [upd_same, take_snoc (List.getElem?_eq_getElem him), List.map_append, vS_app]
        rfl
      · exact fun σ H' q => k H' q.1
  exact ⟨⟨_, fd, G, T.g_look_marks, F.kp, F.bindsN (ps := ["marks"]) fun _ _ _ _ _ _ us hl => match us, hl with | [_], _ => rfl⟩⟩

theorem sc_can_be_first : FnScope ["name", "lists", "one"] ["name", "lists"] (defScope s_can_be_first) := ⟨rfl, rfl, rfl, by decide +kernel, rfl, by decide +kernel, by decide +kernel⟩
theorem ok_can_be_first (T : Tx K mg)  : Cal P w K mg base "can_be_first" 1 ["name", "lists"] spCanBe := by
  obtain ⟨fd, F⟩ := T.fn _ fi_can_be_first
  have G : FnOk P w K mg base CX0 1 d_can_be_first.f fd ["name", "lists"] spCanBe := by
    refine F.ok sc_can_be_first (fun vs H Q E h => ?_) (fun cdv A outer s H vs Q E hr h => ⟨_, PSs.nox (X := cxOf CX0 P w K mg base _ _ _ _ cdv A outer s H E) ((pss_one (ps_ret (pe_callB (wall K rfl) (by rfl) T.f_all bb_all (pa_cons (pe_lc (own := [("one", 2)]) rfl sc_can_be_first.nd (wlist K (pv 1)) (blkOk_by (N := ["name", "lists", "one"]) (sc := defScope s_can_be_first) (own := [("one", 2)]) (by decide +kernel)) (fun _ _ _ _ _ => (pg_name (i := 2) sc_can_be_first.nd rfl (Or.inl rfl))) (fun _ _ _ _ _ => pts_nil) (fun _ _ _ _ _ => (pe_cmpR (wnin K) (pv 0) (pe_slice (wsll K) (pv 2) (po_some pe_int) po_none) rfl))) pa_nil))))), ?_⟩)
    · obtain ⟨_, _, _, _, rfl, _⟩ := h
      rfl
    · obtain ⟨n, l, rs, ls, rfl, hl, hp, hz, hzz, k⟩ := h
      refine ⟨_, rfl, l, rfl, ⟨rs, SqL.of hl⟩, fun D hD => ?_⟩
      have hlen := Paired.length hp
      refine lc_go (walk_list (K := K) (a := l) (xs := rs)) (fun _ i y _ => y = V.bl (!((ls.getD i []).drop 1).contains n)) (fun _ => true) (by omega) hD (fun i H x H' y => by rw [y.1]; exact Le.refl _) (fun H' e => SqL.of (e.at hl)) (fun _ _ _ _ _ h => h) ?_ ?_
      · rintro i x Ha Hb hi e1 e2 ⟨rfl, hx⟩ _ QF QT h1 h2
        have him : i < ls.length := by omega
        obtain ⟨b, hb, a, rfl, ha⟩ := Paired.at hp (List.getElem?_eq_getElem him)
        rw [hx] at hb
        cases hb
        have hgd : ls.getD i [] = ls[i] := by rw [List.getD_eq_getElem?_getD, List.getElem?_eq_getElem him]; rfl
        have ha1 := e2.at ha
        refine ⟨rfl, _, rfl, _, rfl, 1, rfl, a, _, rfl, SqL.of ha1, fun q hq => ?_⟩
        have ec : cutV (vS ls[i]) (some 1) none = vS (ls[i].drop 1) := by
          unfold cutV
          rw [show HT.sIx (vS ls[i]).length 0 (some 1) = min 1 (vS ls[i]).length from HT.sIx_nat _ _ 1, HT.sIx_none]
          cases ls[i] with
          | nil => rfl
          | cons a r =>
            have : min 1 (vS (a :: r)).length = 1 := by rw [vS_len, List.length_cons]; omega
            rw [this]
            show (vS r).take ((vS (a :: r)).length - 1) = vS r
            rw [List.take_of_length_le]
            rw [vS_len, vS_len, List.length_cons]
            omega
        refine ⟨q, _, rfl, .inl (SqL.of upd_same), rfl, by rw [ec]; exact vS_flat _, ?_⟩
        rw [ec, inV_vS]
        exact h2 _ _ (Le.new hq) rfl (by rw [hgd]; rfl)
      · intro ys H2 e1 h1 h2
        have hv := Got.val (v := fun i => V.bl (!((ls.getD i []).drop 1).contains n)) h2
        rw [filter_yes, ← hlen] at hv
        have hv2 : ys = (ls.map fun r => (!(r.drop 1).contains n)).map V.bl := by
          rw [hv]
          conv => rhs; rw [← range_getD ls []]
          rw [List.map_map, List.map_map]
          rfl
        refine ⟨D, ls.map fun r => (!(r.drop 1).contains n), rfl, SqL.of (by rw [h1, hv2]), ?_⟩
        rw [List.all_map]
        exact k H2 e1
  exact ⟨⟨_, fd, G, T.g_can_be_first, F.kp, F.bindsN (ps := ["name", "lists"]) fun _ _ _ _ _ _ us hl => match us, hl with | [_, _], _ => rfl⟩⟩

end
end Sw
set_option linter.all false
set_option maxRecDepth 100000
set_option maxHeartbeats 4000000
/-! Sets of texts: len(set(t)) of a tuple without twins; {elt for .. for .. for ..}; sorted of such a set. -/
namespace SwS
open PySem PySem.Spec PyProof.Rows L2
/-! ### set(t) -/
theorem take_has {xs : List Str} (nd : xs.Nodup) {i : Nat} (hi : i < xs.length) : ((xs.take i).any (· == xs.getD i Str.empty)) = false := by
  rw [List.any_eq_false]
  intro y hy z
  obtain ⟨j, hj, e⟩ := List.mem_iff_getElem.mp hy
  rw [List.length_take] at hj
  have e2 : xs.getD i Str.empty = xs[i] := by rw [List.getD_eq_getElem?_getD, List.getElem?_eq_getElem hi]; rfl
  rw [List.getElem_take] at e
  have e3 : xs[j] = xs[i] := by rw [e, ← e2]; exact eq_of_beq z
  exact List.pairwise_iff_getElem.mp nd j i (by omega) hi (by omega) e3
theorem take_more (xs : List Str) {i : Nat} (hi : i < xs.length) (k : Str) : ((xs.take i).any (· == k) || decide (k = xs.getD i Str.empty)) = (xs.take (i + 1)).any (· == k) := by
  have e2 : xs.getD i Str.empty = xs[i] := by rw [List.getD_eq_getElem?_getD, List.getElem?_eq_getElem hi]; rfl
  rw [List.take_add_one, List.getElem?_eq_getElem hi, List.any_append, e2]
  congr 1
  show _ = ((xs[i] == k) || false)
  rw [Bool.or_false, Bool.eq_iff_iff, decide_eq_true_eq, beq_iff_eq]
  exact eq_comm
section
variable {prog : Program} {w : World} {A : Around} {R : Result → Shared → Prop} {I : Addr} {fp wr : List Addr} {G : Array GenState → Array GenState → Prop} {n : Nat} {P : Nat → Value → Prop} {St : Nat → Shared → Prop}
theorem fillLoop (W : WalksS prog w A.in1 I fp wr G n P St) (S : Addr) (hSf : S ∉ fp) (xs : List Str) (hsz : xs.length = n) (nd : xs.Nodup) (hb : n + 1 < scanBound)
    (hval : ∀ i v, P i v → ∃ t, v = .str (xs.getD i Str.empty) t) :
    ∀ (k i : Nat) (s : Shared), n - i = k → i ≤ n → St i s →
      s.heap.SetOf (PySem.strKind prog w) S (fun k' => (xs.take i).any (· == k')) i →
      (∀ s', Moved (S :: wr) G s s' → s'.heap.SetOf (PySem.strKind prog w) S (fun k' => (xs.take n).any (· == k')) n → R (.ok (.ret .none)) s') →
      codeAny (model prog w) A (.builtin "set.update.loop" ⟨[.ref S, .ref I], []⟩) R s := by
  have notW : S ∉ wr := fun h => hSf (W.sub _ h)
  have up : ∀ b ∈ wr, b ∈ S :: wr := fun b h => List.mem_cons_of_mem _ h
  have kept : ∀ {s s' : Shared} {i : Nat}, Moved wr G s s' → s.heap.SetOf (PySem.strKind prog w) S (fun k' => (xs.take i).any (· == k')) i → s'.heap.SetOf (PySem.strKind prog w) S (fun k' => (xs.take i).any (· == k')) i := fun hm ⟨o, es, ep, t, ho, r⟩ => ⟨o, es, ep, t, hm.heap S _ notW ho, r⟩
  intro k
  induction k with
  | zero =>
    intro i s hk hi hst hS hR
    obtain rfl : i = n := by omega
    refine codeAny_builtin PyProof.Rows.F.entry_set_update_loop ?_
    rw [Around.under_plainId PyProof.Rows.F.plain_set_update_loop _]
    show wpAny _ A.in1 (pyNext (.ref I) >>= _) _ _ s
    refine wpAny_bind (W.done s _ _ hst fun s' hm => ?_)
    show wpAny _ A.in1 (ret Value.none) _ _ s'
    exact wpAny_pure (hR s' (hm.mono up) (kept hm hS))
  | succ k ih =>
    intro i s hk hi hst hS hR
    have hlt : i < n := by omega
    refine codeAny_builtin PyProof.Rows.F.entry_set_update_loop ?_
    rw [Around.under_plainId PyProof.Rows.F.plain_set_update_loop _]
    show wpAny _ A.in1 (pyNext (.ref I) >>= _) _ _ s
    refine wpAny_bind (W.item i s _ _ hlt hst fun v s' hP hst' hm => ?_)
    obtain ⟨t, rfl⟩ := hval i v hP
    show wpAny _ A.in1 (holding [Value.str (xs.getD i Str.empty) t] (setAdd S (.str (xs.getD i Str.empty) t)) >>= _) _ _ s'
    refine wpAny_bind (wpAny_holding ?_)
    have hS' : s'.heap.SetOf (PySem.strKind prog w) S (fun k' => (xs.take i).any (· == k')) i := kept hm hS
    unfold setAdd
    refine wpAny_holding (wpAny_bind ((PySem.strKind prog w).pyHash (k := xs.getD i Str.empty) (strKind_is _ _ _ _) ?_))
    refine wpAny_setAddHashed_of (knd := PySem.strKind prog w) (s := { s' with toks := s'.toks + 1 }) (strKind_is _ _ _ _) rfl hS' (by omega) fun h' hsb hS2 => ?_
    have hSi : h'.SetOf (PySem.strKind prog w) S (fun k' => (xs.take (i + 1)).any (· == k')) (i + 1) :=
      SetOf_congr hS2 (fun k' => take_more xs (by omega) k') (by rw [take_has nd (by omega)]; simp)
    refine wpAny_pure ⟨plainId_quiet PyProof.Rows.F.plain_set_update_loop _, ih (i + 1) _ (by omega) hlt (W.frame _ s' _ _ hst' (Nat.le_succ _) fun b hbf o e => ?_) hSi fun s'' hm'' hS'' => ?_⟩
    · rw [hsb.2 b (fun z : b = S => hSf (by rw [← z]; exact hbf))]; exact e
    · refine hR s'' (Moved.trans W.gtrans ((hm.mono up).then_heap (Nat.le_succ _) fun b o hbn e => ?_) hm'') hS''
      rw [hsb.2 b (fun z : b = S => hbn (by rw [z]; exact List.mem_cons_self))]; exact e
end
section
variable {prog : Program} {w : World} {A : Around} {E : Value → Shared → Prop} {s : Shared}
set_option maxHeartbeats 6400000 in
theorem call_set_tupT {l : Addr} {items : Array Value} {xs : List Str} {Q : Value → Shared → Prop}
    (hh : A.handled = none) (hl : s.heap.IsTuple l items) (hi : PyProof.Rows.StrsAre items.toList xs) (nd : xs.Nodup) (hb : xs.length + 1 < scanBound)
    (h : ∀ (h' : Heap) (tk : Nat), h'.SetOf (PySem.strKind prog w) s.heap.objs.size (fun k' => (xs.take items.size).any (· == k')) items.size →
      (∀ b o, b < s.heap.objs.size → s.heap.get? b = some o → h'.get? b = some o) → Q (.ref s.heap.objs.size) { s with heap := h', toks := tk }) :
    wpAny (model prog w) A (call (.type "set") [.ref l]) Q E s := by
  obtain ⟨c, tl, hmro⟩ := PySem.F.called_set.mro
  have hmade := PySem.F.called_set.made
  have hsub := PySem.F.called_set.sub
  refine wpAny_call (codeAny_of_tree ?_)
  show wpAny _ _ (callAny (.type "set") _) _ _ _
  refine wpAny_pure ⟨Code.quiet_builtin _ (by decide +kernel), codeAny_builtin PySem.F.entry_type_call ?_⟩
  rw [Around.under_plain (weight_type_call_type "set" [.ref l] []) rfl]
  have h1 := PySem.F.called_set.notType
  have h2 := PySem.F.called_set.canCreate
  have hct := PySem.F.typeCall_set_1 (.ref l)
  repeat (any_goals (first | assumption | wp_step))
  refine codeAny_mono (code_set_new_1 (.ref l) (E := E) (Q₁ := fun obj s₁ => ∃ led : Bool, obj = .ref s.heap.objs.size ∧ s₁ = { s with heap := s.heap.push { cls := .type "set", dict := none, data := .set #[] 0 (.fresh 0 0 led) } }) fun led => ⟨led, rfl, rfl⟩) fun r s₁ hr => ?_
  cases r with
  | error e => exact hr
  | ok fl =>
    cases fl with
    | ret obj =>
      obtain ⟨led, rfl, rfl⟩ := hr
      have hS : (s.heap.push { cls := .type "set", dict := none, data := .set #[] 0 (.fresh 0 0 led) }).get? s.heap.objs.size = some { cls := .type "set", dict := none, data := .set #[] 0 (.fresh 0 0 led) } := Heap.get?_push_size _ rfl
      have hT : Shared.TypeIs { s with heap := s.heap.push { cls := .type "set", dict := none, data := .set #[] 0 (.fresh 0 0 led) } } (.ref s.heap.objs.size) "set" := ⟨_, hS, rfl⟩
      have hli := PySem.F.called_set.init.lookup
      have hbi := PySem.F.called_set.init.bind (.ref s.heap.objs.size)
      repeat (any_goals (first | assumption | wp_step))
      refine codeAny_mono (codeAny_call_builtin (R := wants (fun r s₂ => r = .none ∧ ∃ h' tk, s₂ = { s with heap := h', toks := tk } ∧
          h'.SetOf (PySem.strKind prog w) s.heap.objs.size (fun k' => (xs.take items.size).any (· == k')) items.size ∧
          (∀ b o, b < s.heap.objs.size → s.heap.get? b = some o → h'.get? b = some o)) E) PySem.F.called_set.init.plain PySem.F.entry_set_init (check_set_init_1 hT ?_)) fun r₂ s₂ hr₂ => ?_
      · obtain ⟨ol, hol, hcl, nl, hdl⟩ := hl
        obtain ⟨ocls, odict, odata, oslots⟩ := ol
        simp only at hcl hdl
        subst hcl; subst hdl
        have hol' : (s.heap.push { cls := .type "set", dict := none, data := .set #[] 0 (.fresh 0 0 led) }).get? l = some { cls := .type "tuple", dict := odict, data := .seq items nl, slots := oslots } := Heap.get?_push_of_some _ hol
        have hsls := PySem.F.sub_tuple_set
        have hslf := PySem.F.sub_tuple_frozenset
        have hne : (Value.type "tuple" == Value.type "dict") = false := by decide
        have hl1 : (s.heap.push { cls := .type "set", dict := none, data := .set #[] 0 (.fresh 0 0 led) }).IsTuple l items := ⟨_, hol', rfl, nl, rfl⟩
        unfold Builtin.«set.__init__» noKeywords Builtin.Frozenset.updateFrom
        generalize hPI : pyIter = PI
        wp_walk
        subst hPI
        refine wpAny_pyIter_tuple hl1 ?_
        refine wpAny_bind (wpAny_runValue ?_)
        have hlS : l < s.heap.objs.size := Heap.lt_size hol
        have hh3 : A.in1.in1.in1.handled = none := by simp [hh]
        have hneI : l ≠ (s.heap.push { cls := .type "set", dict := none, data := .set #[] 0 (.fresh 0 0 led) }).objs.size := by
          rw [Heap.size_push]; exact Nat.ne_of_lt (Nat.lt_succ_of_lt hlS)
        have hSf : s.heap.objs.size ∉ [(s.heap.push { cls := .type "set", dict := none, data := .set #[] 0 (.fresh 0 0 led) }).objs.size, l] := by
          rw [Heap.size_push]; simp only [List.mem_cons, List.mem_singleton, List.not_mem_nil, or_false, not_or]
          exact ⟨Nat.ne_of_lt (Nat.lt_succ_self _), Nat.ne_of_gt hlS⟩
        have hsz : xs.length = items.size := by rw [← StrsAre.len_eq hi, Array.length_toList]
        have hval : ∀ (i : Nat) (v : Value), items[i]? = some v → ∃ t, v = .str (xs.getD i Str.empty) t := fun i v hv => SS.strs_at hi i v (by rw [Array.getElem?_toList]; exact hv)
        refine fillLoop ((Walks.tuple hh3 _ l hneI items).toS) s.heap.objs.size
          hSf xs hsz nd (by rw [← hsz]; exact hb) hval (items.size - 0) 0 _ (by omega) (Nat.zero_le _)
          ⟨⟨_, Heap.get?_push_size _ rfl, rfl, rfl⟩, (hl1.push _)⟩ ?hS0 ?hR
        case hS0 =>
          have hget : ((s.heap.push { cls := .type "set", dict := none, data := .set #[] 0 (.fresh 0 0 led) }).push { cls := .type "tuple_iterator", data := .fields #[.ref l, .int 0 0] }).get? s.heap.objs.size
              = some { cls := .type "set", dict := none, data := .set #[] 0 (.fresh 0 0 led) } := Heap.get?_push_of_some _ hS
          exact PyProof.Rows.SetOf_congr ((PyProof.Rows.setObjOf_fresh (knd := PySem.strKind prog w) led).setOf hget (by unfold scanBound; omega)) (fun _ => rfl) rfl
        case hR =>
          intro s' hm hS'
          obtain ⟨h', g', d', tk', os'⟩ := s'
          have eg : g' = s.gens := hm.gens
          have ed : d' = s.drawn := hm.drawn
          have eo : os' = s.os := hm.os
          subst eg; subst ed; subst eo
          show wpAny _ _ _ _ _ _
          refine wpAny_pure ?_
          show wpAny _ _ (ret Value.none) _ _ _
          refine wpAny_pure ⟨rfl, h', tk', rfl, hS', fun b o hb e => ?_⟩
          have hb1 : b ≠ s.heap.objs.size := Nat.ne_of_lt hb
          have hb2 : b ≠ (s.heap.push { cls := .type "set", dict := none, data := .set #[] 0 (.fresh 0 0 led) }).objs.size := by
            rw [Heap.size_push]; exact Nat.ne_of_lt (Nat.lt_succ_of_lt hb)
          exact hm.heap b o (by simp only [List.mem_cons, List.mem_singleton, List.not_mem_nil, or_false, not_or]; exact ⟨hb1, hb2⟩) (Heap.get?_push_of_some _ (Heap.get?_push_of_some _ e))
      · cases r₂ with
        | error e => exact hr₂
        | ok fl₂ =>
          cases fl₂ with
          | ret r =>
            obtain ⟨rfl, h', tk, rfl, hS', hk'⟩ := hr₂
            repeat (any_goals (first | assumption | wp_step))
            exact h _ _ hS' hk'
          | _ => exact hr₂.elim
    | _ => exact hr.elim
end
section
variable {X : Cx}
/-- len(set(t)), t a tuple of texts without twins -/
def tLenSetT (K : PySem.W.Frag) (ta : TE) : TE := fun σ H Q => ta σ H fun x H1 => ∃ l, ∃ xs : List Str, x = .ref l ∧ SqT K H1 l (xs.map V.str) ∧ xs.Nodup ∧ xs.length ≤ 100 ∧ Q (.int xs.length) H1
theorem pe_lenSetT {a : Expr} {ta : TE} {p p2 q pos : Pos} (hc : X.calm = true) (hg : Gl X "len") (hm : X.mg "len" = none) (hg2 : Gl X "set") (hm2 : X.mg "set" = none) (ha : PE X a ta)
    (na : starEach [a] X.env = (false, eval a X.env) :: starEach [] X.env := by rfl) : PE X (.Call (.Name "len" p) [.Call (.Name "set" p2) [a] [] q] [] pos) (tLenSetT X.K ta) := by
  refine ⟨fun pins s σ H Q I h => ?_⟩
  refine Call_ (ld_blt I hg hm boot_len ?_)
  refine PyProof.Rows.callWith_builtin1 (PyProof.Rows.args_cons ?_ rfl) rfl rfl
  refine Call_ (ld_blt I hg2 hm2 boot_set ?_)
  refine PyProof.Rows.callWith_type1 (PyProof.Rows.args_cons (thn (ha.run pins s σ H _ I h) fun v s1 ⟨x, H1, I1, r1, q1⟩ => PyProof.Rows.args_nil ?_) na) na rfl
  obtain ⟨l, xs, rfl, hq, nd, h1, q1⟩ := q1
  cases r1
  obtain ⟨its, r, pl, hz⟩ := I1.tuple hq
  refine call_set_tupT (I1.ok.hd hc) pl (by simpa using strsAre_of r) nd (by unfold scanBound; omega) fun h' tk hS hk => ?_
  refine PyProof.Rows.args_nil ?_
  have hl : its.toArray.size = xs.length := by rw [List.size_toArray, ← r.length, List.length_map]
  rw [hl] at hS
  obtain ⟨o, es, ep, t, ho, hex, hd, _, _, _, hf, hn⟩ := hS
  have I2 : Inv X pins σ H1 { s1 with heap := h', toks := tk } := I1.kept fun b o e => hk b o (Heap.lt_size e) e
  exact call_len_set ho hex hd hf (by rw [hn] <;> omega) ⟨.int xs.length, H1, I2.tok _, ⟨_, by rw [hn]⟩, q1⟩
end
end SwS
set_option linter.all false
set_option maxRecDepth 100000
set_option maxHeartbeats 4000000
/-! for i, x in enumerate(t), t a tuple. -/
namespace SwS
open PySem PySem.Spec PyProof.Rows L2
section
open PySem.Sem (wp)
open AutoSeq1 (wpAny_loadPart')
variable {prog : Program} {w : World} {A : Around} {E : Value → Shared → Prop} {s : Shared}
theorem enumT_next {e it l : Addr} {i : Nat} {items : Array Value} {x old : Value} {Q : Value → Shared → Prop}
    (he : IsEnum s.heap e it i old) (hit : s.heap.IsTupleIter it l i) (hl : s.heap.IsTuple l items) (hx : items[i]? = some x) (hne : e ≠ it)
    (hQ : ∀ h', IsEnumOut h' e it ((i : Int) + 1) x s.heap.objs.size → h'.IsTupleIter it l (i + 1) →
      h'.get? s.heap.objs.size = some { cls := .type "tuple", data := .seq #[.int i s.toks, x] } → h'.objs.size = s.heap.objs.size + 1 →
      (∀ b o, b ≠ e → b ≠ it → s.heap.get? b = some o → h'.get? b = some o) → Q (.ref s.heap.objs.size) { s with heap := h', toks := s.toks + 1 }) :
    wpAny (model prog w) A (Builtin.«enumerate.__next__» ⟨[.ref e], []⟩) (fun fin s' => ∃ v, fin = .done (.ret v) ∧ Q v s') E s := by
  obtain ⟨hp, g, d, tk, os⟩ := s
  have moved : ∀ {h h' : Heap} {j : Nat}, h.IsTupleIter it l j → (∀ o, h.get? it = some o → h'.get? it = some o) → h'.IsTupleIter it l j := fun ⟨o, ho, r⟩ k => ⟨o, k o ho, r⟩
  show wpAny _ _ (field (.ref e) 2 >>= _) _ _ _
  refine wpAny_bind (wpAny_field he rfl (x := .ref it) rfl ?_)
  refine wpAny_bind (RZ.nextOf_tuple_item hit hl hx fun h₁ hit₁ hs₁ => ?_)
  replace hs₁ : Heap.SameBut it hp h₁ := hs₁
  have he₁ : IsEnum h₁ e it i old := (hs₁.2 e hne).trans he
  show wpAny _ _ (field (.ref e) 3 >>= _) _ _ ⟨h₁, g, d, tk, os⟩
  refine wpAny_bind (wpAny_field he₁ rfl (x := rawInt i) rfl ?_)
  show wpAny _ _ (field (.ref e) 4 >>= _) _ _ ⟨h₁, g, d, tk, os⟩
  refine wpAny_bind (wpAny_field he₁ rfl (x := .none) rfl ?_)
  show wpAny _ _ (mkInt i >>= _) _ _ ⟨h₁, g, d, tk, os⟩
  refine wpAny_bind (wpAny_mkInt ?_)
  show wpAny _ _ (setField (.ref e) 3 (rawInt ((i : Int) + 1)) >>= _) _ _ ⟨h₁, g, d, tk + 1, os⟩
  refine wpAny_bind (wpAny_setField_rec he₁ (by simp) fun h₂ he₂ hs₂ => ?_)
  replace hs₂ : Heap.SameBut e h₁ h₂ := hs₂
  replace he₂ : IsEnum h₂ e it ((i : Int) + 1) old := he₂
  show wpAny _ _ (setField (.ref e) 4 .none >>= _) _ _ ⟨h₂, g, d, tk + 1, os⟩
  refine wpAny_bind (wpAny_setField_rec he₂ (by simp) fun h₃ he₃ hs₃ => ?_)
  replace hs₃ : Heap.SameBut e h₂ h₃ := hs₃
  replace he₃ : IsEnum h₃ e it ((i : Int) + 1) old := he₃
  show wpAny _ _ (newTuple [.int i tk, x] >>= _) _ _ ⟨h₃, g, d, tk + 1, os⟩
  refine wpAny_bind (wpAny_newTuple ?_)
  have he₄ : IsEnum (h₃.push { cls := .type "tuple", data := .seq #[.int i tk, x] }) e it ((i : Int) + 1) old := Heap.get?_push_of_some _ he₃
  generalize hh₄ : h₃.push { cls := .type "tuple", data := .seq #[.int i tk, x] } = h₄ at he₄
  have hsz : h₃.objs.size = hp.objs.size := by rw [hs₃.1, hs₂.1, hs₁.1]
  have hel : e < hp.objs.size := Heap.lt_size he
  have ht₄ : h₄.get? hp.objs.size = some { cls := .type "tuple", data := .seq #[.int i tk, x] } := by rw [← hh₄, ← hsz]; exact Heap.get?_push_size _ rfl
  have hz₄ : h₄.objs.size = hp.objs.size + 1 := by rw [← hh₄, Heap.size_push, hsz]
  have hk₄ : ∀ b o, b ≠ e → b ≠ it → hp.get? b = some o → h₄.get? b = some o := fun b o hbe hbi hb => by
    rw [← hh₄]; exact Heap.get?_push_of_some _ (hs₃.extBut b o hbe (hs₂.extBut b o hbe (hs₁.extBut b o hbi hb)))
  have hit₄ : h₄.IsTupleIter it l (i + 1) := moved hit₁ fun o ho => by
    rw [← hh₄]; exact Heap.get?_push_of_some _ (hs₃.extBut it o (Ne.symm hne) (hs₂.extBut it o (Ne.symm hne) ho))
  show wpAny _ _ (Builtin.SmallTypes.ownedTupleIsFree (.ref e) >>= _) _ _ ⟨h₄, g, d, tk + 1, os⟩
  rw [hsz]
  clear hh₄ he₃ hs₃ he₂ hs₂ he₁ hs₁ hit₁ hsz h₃ h₂ h₁
  refine wpAny_bind ?_
  unfold Builtin.SmallTypes.ownedTupleIsFree
  refine wpAny_bind (wpAny_field he₄ rfl (x := .none) rfl (wpAny_pure ?_))
  simp only [if_true]
  refine wpAny_bind (wpAny_rule ?_)
  refine wpAny_bind (wpAny_field he₄ rfl (x := old) rfl ?_)
  refine wpAny_bind (wpAny_setField_rec he₄ (by simp) fun h₅ he₅ hs₅ => ?_)
  replace hs₅ : Heap.SameBut e h₄ h₅ := hs₅
  replace he₅ : IsEnum h₅ e it ((i : Int) + 1) x := he₅
  show wpAny _ _ (Builtin.SmallTypes.ownedTupleHandOut (.ref e) (.ref hp.objs.size) >>= _) _ _ ⟨h₅, g, d, tk + 1, os⟩
  refine wpAny_bind ?_
  unfold Builtin.SmallTypes.ownedTupleHandOut
  refine wpAny_bind (wpAny_setField_rec he₅ (by simp) fun h₆ he₆ hs₆ => ?_)
  replace hs₆ : Heap.SameBut e h₅ h₆ := hs₆
  replace he₆ : IsEnumOut h₆ e it ((i : Int) + 1) x hp.objs.size := he₆
  refine wpAny_setField_rec he₆ (by simp) fun h₇ he₇ hs₇ => ?_
  replace hs₇ : Heap.SameBut e h₆ h₇ := hs₇
  replace he₇ : IsEnumOut h₇ e it ((i : Int) + 1) x hp.objs.size := he₇
  have up : ∀ b o, b ≠ e → h₄.get? b = some o → h₇.get? b = some o := fun b o n h => hs₇.extBut b o n (hs₆.extBut b o n (hs₅.extBut b o n h))
  refine wpAny_bind (wpAny_letGo (wpAny_pure ⟨_, rfl, hQ h₇ he₇ (moved hit₄ fun o => up it o (Ne.symm hne)) (up _ _ (Nat.ne_of_gt hel) ht₄) (by rw [hs₇.1, hs₆.1, hs₅.1, hz₄]) fun b o n1 n2 h => up b o n1 (hk₄ b o n1 n2 h)⟩))
theorem pyNext_enumT {e it l : Addr} {i : Nat} {items : Array Value} {x old : Value} {Q : Option Value → Shared → Prop}
    (he : IsEnum s.heap e it i old) (hit : s.heap.IsTupleIter it l i) (hl : s.heap.IsTuple l items) (hx : items[i]? = some x) (hne : e ≠ it)
    (hQ : ∀ h', IsEnumOut h' e it ((i : Int) + 1) x s.heap.objs.size → h'.IsTupleIter it l (i + 1) →
      h'.get? s.heap.objs.size = some { cls := .type "tuple", data := .seq #[.int i s.toks, x] } → h'.objs.size = s.heap.objs.size + 1 →
      (∀ b o, b ≠ e → b ≠ it → s.heap.get? b = some o → h'.get? b = some o) → Q (some (.ref s.heap.objs.size)) { s with heap := h', toks := s.toks + 1 }) :
    wpAny (model prog w) A (pyNext (.ref e)) Q E s := by
  have hT : s.TypeIs (.ref e) "enumerate" := ⟨_, he, rfl⟩
  unfold pyNext
  exact wpAny_bind (wpAny_attempt (wpAny_callSpecial?_slot (name := PySem.Str.ofString "__next__") hT PySem.F.slot_enumerate_next
    (wpAny_call_entry PySem.F.slot_enumerate_next hT PySem.F.entry_enumerate_next
      (enumT_next he hit hl hx hne fun h' a b c d k => wpAny_pure (hQ h' a b c d k)) (PySem.F.args_enumerate_next_1 _))))
theorem pyNext_enumT_end {e it l : Addr} {i : Nat} {items : Array Value} {old : Value} {Q : Option Value → Shared → Prop} (hh : A.handled = none)
    (he : IsEnum s.heap e it i old) (hit : s.heap.IsTupleIter it l i) (hl : s.heap.IsTuple l items) (hx : items[i]? = none)
    (hQ : ∀ h', Heap.ExtBut it s.heap h' → Q none { s with heap := h' }) : wpAny (model prog w) A (pyNext (.ref e)) Q E s := by
  have hT : s.TypeIs (.ref e) "enumerate" := ⟨_, he, rfl⟩
  unfold pyNext
  refine wpAny_bind (wpAny_attempt (wpAny_callSpecial?_slot (name := PySem.Str.ofString "__next__") hT PySem.F.slot_enumerate_next
    (wpAny_call_entry PySem.F.slot_enumerate_next hT PySem.F.entry_enumerate_next ?_ (PySem.F.args_enumerate_next_1 _))))
  show wpAny _ _ (field (.ref e) 2 >>= _) _ _ _
  refine wpAny_bind (wpAny_field he rfl (x := .ref it) rfl ?_)
  refine wpAny_bind (RZ.nextOf_tuple_end hh hit hl hx fun h' x he' hx' => ?_)
  obtain ⟨o, ho, hc⟩ := hx'
  refine wpAny_bind (wpAny_isInstance (T := "StopIteration") (b := true) ⟨o, ho, hc⟩ isSubtype_stop ?_)
  exact wpAny_pure (hQ _ he')
theorem meets_enumT (l : Addr) (items : Array Value) :
    Meets (Builtin.«enumerate.__new__» ⟨[.type "enumerate", .ref l], []⟩) (fun _ R s => s.heap.IsTuple l items ∧
      R (.ok (.ret (.ref (s.heap.push { cls := .type "tuple_iterator", data := .fields #[.ref l, .int 0 0] }).objs.size)))
        { s with heap := (s.heap.push { cls := .type "tuple_iterator", data := .fields #[.ref l, .int 0 0] }).push { cls := .type "enumerate", data := .fields #[.none, .bool false, .ref s.heap.objs.size, rawInt 0, .none, .none] } }) :=
  .of_wp fun prog w A R s h => by
    obtain ⟨hp, g, d, tk, os⟩ := s; obtain ⟨hl, h⟩ := h
    have hsub := sub_enumerate
    have hL : Heap.IsTuple (Shared.heap ⟨hp, g, d, tk, os⟩) l items := hl
    wp_walk using wpAny_pyIter_tuple hL
    refine wpAny_stack_any fun st => wpAny_pure ?_
    split
    · rename_i c _ _ _ _ _
      cases (c == Value.type "enumerate")
      · wp_walk using wpAny_pyIter_tuple hL
        exact ⟨_, rfl, h⟩
      · wp_walk using wpAny_pyIter_tuple hL
        exact ⟨_, rfl, h⟩
    · wp_walk using wpAny_pyIter_tuple hL
      exact ⟨_, rfl, h⟩
theorem call_enumT {l : Addr} {items : Array Value} {Q : Value → Shared → Prop} (hL : s.heap.IsTuple l items)
    (h : ∀ h', IsEnum h' (s.heap.objs.size + 1) s.heap.objs.size 0 .none → h'.IsTupleIter s.heap.objs.size l 0 → h'.objs.size = s.heap.objs.size + 2 →
      (∀ b o, s.heap.get? b = some o → h'.get? b = some o) → Q (.ref (s.heap.objs.size + 1)) { s with heap := h' }) :
    wpAny (model prog w) A (call (.type "enumerate") [.ref l]) Q E s := by
  refine callType_new PySem.F.called_enumerate (by decide) (PySem.F.typeCall_enumerate_1 _) (PySem.F.newCall_enumerate_1 _) (fun obj => PySem.F.args_object_init_2 obj _) PySem.F.entry_enumerate_new
    (meets_enumT l items) ⟨hL, ?_⟩
  have hz : (s.heap.push { cls := .type "tuple_iterator", data := .fields #[.ref l, .int 0 0] }).objs.size = s.heap.objs.size + 1 := Heap.size_push ..
  show _ ∧ _
  rw [hz]
  have he : IsEnum ((s.heap.push { cls := .type "tuple_iterator", data := .fields #[.ref l, .int 0 0] }).push
      { cls := .type "enumerate", data := .fields #[.none, .bool false, .ref s.heap.objs.size, rawInt 0, .none, .none] }) (s.heap.objs.size + 1) s.heap.objs.size 0 .none := by
    have := Heap.get?_push_size (s.heap.push { cls := .type "tuple_iterator", data := .fields #[.ref l, .int 0 0] })
      (o := { cls := .type "enumerate", data := .fields #[.none, .bool false, .ref s.heap.objs.size, rawInt 0, .none, .none] }) rfl
    rw [hz] at this; exact this
  refine ⟨⟨_, he, rfl⟩, h _ he ⟨_, Heap.get?_push_of_some _ (Heap.get?_push_size _ rfl), rfl, rfl⟩ (by rw [Heap.size_push, hz]) fun b o x => Heap.get?_push_of_some _ (Heap.get?_push_of_some _ x)⟩
end
/-! ### as a rule -/
def IteT (K : PySem.W.Frag) (a : Addr) : It :=
  ⟨fun i H => ∃ (xs : List V) (x : V), SqT K H a xs ∧ xs[i]? = some x, fun i H v H' => ∃ T x, v = .ref T ∧ H T = none ∧ H' = upd H T (.tup [.int (i : Nat), x]) ∧ ∀ xs, SqT K H a xs → xs[i]? = some x, fun i H => ∃ xs : List V, SqT K H a xs ∧ xs.length ≤ i⟩
theorem two_mem {b e it : Addr} (h : b ∈ [e, it]) : b = e ∨ b = it := by simpa using h
theorem turn_enumT {P : Program} {w : World} {K : PySem.W.Frag} {elts : List Expr} {kk : Nat} {tpos : Pos} (a e it : Addr) :
    Turn P w K (.Tuple elts kk tpos) (IteT K a) [e, it] e (fun i h => (∃ old, IsEnum h e it ((i : Nat) : Int) old) ∧ h.IsTupleIter it a i ∧ e ≠ it) where
  mem := by simp
  obj := fun i h st b hb => by
    obtain ⟨⟨old, he⟩, ⟨o, ho, hc, hd⟩, _⟩ := st
    rcases two_mem hb with z | z
    · rw [z]; exact ⟨_, he, fun v q => nomatch q⟩
    · rw [z]; exact ⟨o, ho, fun v q => by rw [hd] at q; cases q⟩
  keep := fun i h h' st k => let ⟨⟨old, he⟩, ⟨o, ho, r⟩, hne⟩ := st; ⟨⟨old, k e (by simp) _ he⟩, ⟨o, k it (by simp) o ho, r⟩, hne⟩
  item := by
    intro X hP hw hK hc i pins s σ H E I hf st hg
    subst hP hw hK
    obtain ⟨⟨old, he⟩, hit, hne⟩ := st
    obtain ⟨xs, x, hq, hx⟩ := hg
    obtain ⟨its, rv, p, hz⟩ := I.tuple hq
    obtain ⟨u, hu, ru⟩ := rv.get hx
    have hel : e < s.heap.objs.size := Heap.lt_size he
    have hil : it < s.heap.objs.size := by obtain ⟨_, q, _⟩ := hit; exact Heap.lt_size q
    refine pyNext_enumT he hit p (x := u) (by simpa using hu) hne fun h' ho hit' hT hsz hk => ?_
    refine ⟨_, rfl, wpAny_letOwnedTupleGo_enum (s := { s with heap := h', toks := s.toks + 1 }) ho fun h'' he' sb => ?_⟩
    have hT2 : h''.get? s.heap.objs.size = some { cls := .type "tuple", data := .seq #[.int i s.toks, u] } := (sb.2 _ (Nat.ne_of_gt hel)).trans hT
    have new : ObjOk X.prog X.w (upd H s.heap.objs.size (.tup [.int (i : Nat), x])) h'' s.heap.objs.size (.tup [.int (i : Nat), x]) :=
      ⟨by show 2 ≤ sizeLine; decide, [.int i s.toks, u], .cons ⟨_, rfl⟩ (.cons ru .nil), ⟨_, hT2, rfl, _, rfl⟩⟩
    have I1 : Inv X pins σ (upd H s.heap.objs.size (.tup [.int (i : Nat), x])) { s with heap := h'', toks := s.toks + 1 } :=
      I.turnedNew (ch := [e, it]) (fun b ob hb q => (sb.2 b (fun z => hb (by simp [z]))).trans (hk b ob (fun z => hb (by simp [z])) (fun z => hb (by simp [z])) q)) hf (Nat.le_refl _) new
    refine ⟨.ref s.heap.objs.size, _, I1, rfl, ⟨_, x, rfl, I.hok.fresh (Nat.le_refl _), rfl, fun ys hy => by rw [I.tuple_inj hy hq]; exact hx⟩, ⟨⟨u, ?_⟩, ?_, hne⟩, fun b hb => ?_⟩
    · have e1 : ((i + 1 : Nat) : Int) = (i : Int) + 1 := by omega
      rw [e1]; exact he'
    · obtain ⟨o, q, r⟩ := hit'
      exact ⟨o, (sb.2 it (Ne.symm hne)).trans q, r⟩
    · have hb' : b < s.heap.objs.size := by
        rcases two_mem hb with z | z
        · rw [z]; exact hel
        · rw [z]; exact hil
      rw [upd_ne (Nat.ne_of_lt hb')]
      exact (hf b hb).1
  done := by
    intro X hP hw hK hc i pins s σ H E I hf st hg
    subst hP hw hK
    obtain ⟨⟨old, he⟩, hit, hne⟩ := st
    obtain ⟨xs, hq, hx⟩ := hg
    obtain ⟨its, rv, p, hz⟩ := I.tuple hq
    obtain ⟨f0, f1, f2, f3, f4, f5⟩ := hf it (by simp)
    have hl := rv.length
    exact pyNext_enumT_end (I.ok.hd hc) he hit p (by simp; omega) fun h' eb => ⟨rfl, I.turned (t' := s.toks) (fun b o hb q => eb b o hb q) f0 f1 f3 f4 f5⟩
  self := fun A i s Q E st h => let ⟨⟨_, he⟩, _⟩ := st; wpAny_pyIter_enum he h
def iEnumT (K : PySem.W.Frag) (ta : TA) : TI := fun σ H R => ta σ H fun vs H1 => ∃ a xs, vs = [.ref a] ∧ SqT K H1 a xs ∧ R (IteT K a) H1
theorem pi_enumT {X : Cx} {e : Expr} {ta : TA} {p pos tpos : Pos} {elts : List Expr} {kk : Nat} (K : PySem.W.Frag) (hg : Gl X "enumerate") (hm : X.mg "enumerate" = none) (ha : PA X [e] ta) (hs : starEach [e] X.env = [(false, eval e X.env)] := by rfl) (hK : X.K = K := by rfl) :
    PI X (.Tuple elts kk tpos) (.Call (.Name "enumerate" p) [e] [] pos) (iEnumT K ta) := by
  subst hK
  refine ⟨fun pins s σ H R I h => ?_⟩
  refine Call_ (ld_blt I hg hm boot_enumerate (PyProof.Rows.callWith_type1 (thn (ha.run pos pins s σ H _ I h) fun us s1 ⟨vs, H1, I1, r1, q1⟩ => ?_) hs rfl))
  obtain ⟨a, xs, ex, hq, q⟩ := q1
  subst ex
  cases r1 with
  | cons r rr =>
    cases rr
    cases r
    obtain ⟨its, rv, p', hz⟩ := I1.tuple hq
    refine call_enumT p' fun h' he hit hsz hk => wpAny_pyIter_enum he ?_
    have I2 : Inv X pins σ H1 { s1 with heap := h' } := I1.kept (t' := s1.toks) hk
    refine ⟨s1.heap.objs.size + 1, [s1.heap.objs.size + 1, s1.heap.objs.size], _, _, H1, rfl, I2, turn_enumT a (s1.heap.objs.size + 1) s1.heap.objs.size, ⟨⟨.none, he⟩, hit, Nat.succ_ne_self _⟩, fun b hb => ?_, q⟩
    have hle : s1.heap.objs.size ≤ b := by
      rcases two_mem hb with z | z
      · rw [z]; exact Nat.le_add_right _ _
      · rw [z]; exact Nat.le_refl _
    exact I1.fpOk hle (I1.hok.fresh hle)
theorem walk_enumT {K : PySem.W.Frag} {a : Addr} {xs : List V} : Walk (IteT K a) xs.length (fun H => SqT K H a xs) (YPair (fun i => some (.int (i : Nat))) (fun i => xs[i]?)) := by
  refine ⟨fun i _ hi q => ⟨xs, xs[i], q, by simp [hi]⟩, fun _ q => ⟨xs, q, Nat.le_refl _⟩, fun i H v H' _ q y => ?_⟩
  obtain ⟨T, x, h1, h2, h3, h4⟩ := y
  exact ⟨T, .int (i : Nat), x, h1, h2, h3, rfl, h4 xs q⟩
end SwS
set_option linter.all false
set_option maxRecDepth 100000
set_option maxHeartbeats 4000000
/-! SwF25: faults of hooks, bases. Terms printed by gen_term.py. -/
namespace Sw
open PySem PySem.Spec PyProof.Rows L2 LamX
section
variable {P : Program} {w : World} {K : PySem.W.Frag} {mg : Str → Option Value} {base : Heap}


/-- a hook as the law makes it -/
structure HkOk (h : Hook) : Prop where
  ne : h ≠ []
  mt : ∀ c ∈ h, ∀ m ∈ c.1, m ∈ Tb.METHS
  nd : ∀ c ∈ h, c.1.Nodup
  sz : h.length ≤ 20
theorem HkOk.csz {h : Hook} (k : HkOk h) {c : List Str × Bool} (hc : c ∈ h) : c.1.length ≤ 5 := length_le_of_nodup_of_subset _ Tb.METHS (k.nd c hc) fun m hm => k.mt c hc m hm
theorem kit_bl : PySem.W.kitOne K (.type "bool") (.type "bool") = some true := kit_ty (by kernel_rfl)
def spIsClause : Sp := fun vs H Q _ => ∃ v c, vs = [v] ∧ ClauseAt H v c ∧ (∀ m ∈ c.1, m ∈ Tb.METHS) ∧ c.1.Nodup ∧ ∀ H', Le H H' → Q (.bl true) H'
def spHookFault : Sp := fun vs H Q _ => ∃ v h, vs = [v] ∧ HookAt H v h ∧ HkOk h ∧ ∀ H', Le H H' → Q .non H'
/-- a hook that may stand: none, or one of a sworn class -/
def spLookHook : Sp := fun vs H Q _ => ∃ v oh sw, vs = [v, .bl sw] ∧ OHook H v oh ∧ (∀ h, oh = some h → HkOk h ∧ sw = true) ∧ ∀ H', Le H H' → Q .non H'
theorem hook_sh {h : Hook} (k : HkOk h) : SeqAt.shaped (.tuple (h.map dC)) = true := by
  obtain ⟨a, b⟩ := lay_Cs (h := h) fun c hc x hx => meth_ok (k.mt c hc x hx)
  unfold SeqAt.shaped
  rw [show PyData.canLay0 (.tuple (h.map dC)) = PyData.canLayAll0 (h.map dC) from rfl, a, Bool.true_and, decide_eq_true_eq]
  show PyData.depthAll (h.map dC) + 1 ≤ 64
  omega
theorem rsl_init {a : Addr} {xs : List V} {i : Nat} {H : Hp} {Q : VK} (hi : i ≤ xs.length) (h : SqT K H a xs) (k : ∀ p H', Le H H' → SqT K H' p (xs.take i) → Q (.ref p) H') : rSlA K (.ref a) none (some (i : Int)) H Q := by
  have e1 : HT.sIx xs.length xs.length (some (i : Int)) = i := by rw [HT.sIx_nat, Nat.min_eq_left hi]
  refine ⟨a, xs, rfl, h, fun ⟨_, z⟩ => ?_, fun _ p hp => k p _ (Le.new hp) (SqT.of ?_)⟩
  · rw [e1] at z
    refine k a H (Le.refl _) ?_
    rw [z, List.take_length]
    exact h
  · rw [upd_same]
    unfold cutV
    rw [e1, HT.sIx_none, List.drop_zero, Nat.sub_zero]

theorem sc_is_clause : FnScope ["value", "methods", "answer", "method"] ["value"] (defScope s_is_clause) := ⟨rfl, rfl, rfl, by decide +kernel, rfl, by decide +kernel, by decide +kernel⟩
theorem ok_is_clause (T : Tx K mg) (c_is_name : Cal P w K mg base "is_name" 1 ["value"] spIsName) : Cal P w K mg base "is_clause" 2 ["value"] spIsClause := by
  obtain ⟨fd, F⟩ := T.fn _ fi_is_clause
  have G : FnOk P w K mg base CX0 2 d_is_clause.f fd ["value"] spIsClause := by
    refine F.ok sc_is_clause (fun vs H Q E h => ?_) (fun cdv A outer s H vs Q E hr h => ⟨_, PSs.nox (X := cxOf CX0 P w K mg base _ _ _ _ cdv A outer s H E) ((pss_cons (ps_if (PW.pt (pw_or (pt_not (pt_val (pe_callB (wisi K) (by rfl) T.f_isinstance bb_isinstance (pa_cons (pv 0) (pa_cons (pe_bltn (v := .ty "tuple") (by rfl) T.f_tuple bb_tuple rfl) pa_nil))))) (pw_or1 (pt_cmpR op_ne (pe_callB (wlen K) (by rfl) T.f_len bb_len (pa_cons (pv 0) pa_nil)) pe_int (nomark _))))) (pss_one (ps_ret pe_bl)) pss_nil)
    (pss_cons (ps_asg (pv 0) (wtup (n := 2) K rfl (pgs_cons (pg_name (i := 1) sc_is_clause.nd rfl (Or.inl rfl)) (pgs_cons (pg_name (i := 2) sc_is_clause.nd rfl (Or.inl rfl)) pgs_nil))))
    (pss_cons (ps_if (PW.pt (pw_or (pt_not (pt_val (pe_callB (wisi K) (by rfl) T.f_isinstance bb_isinstance (pa_cons (pv 1) (pa_cons (pe_bltn (v := .ty "tuple") (by rfl) T.f_tuple bb_tuple rfl) pa_nil))))) (pw_or1 (pt_not (pt_val (pe_callB (wisi K) (by rfl) T.f_isinstance bb_isinstance (pa_cons (pv 2) (pa_cons (pe_bltn (v := .ty "bool") (by rfl) T.f_bool bb_bool rfl) pa_nil)))))))) (pss_one (ps_ret pe_bl)) pss_nil)
    (pss_one (ps_ret (pe_and (pe_callB (wall K rfl) (by rfl) T.f_all bb_all (pa_cons (pe_lc (own := [("method", 3)]) rfl sc_is_clause.nd (witup K (pv 1)) (blkOk_by (N := ["value", "methods", "answer", "method"]) (sc := defScope s_is_clause) (own := [("method", 3)]) (by decide +kernel)) (fun _ _ _ _ _ => (pg_name (i := 3) sc_is_clause.nd rfl (Or.inl rfl))) (fun _ _ _ _ _ => pts_nil) (fun _ _ _ _ _ => (pc c_is_name hr rfl (pa_cons (pv 3) pa_nil)))) pa_nil)) (pe_one (pe_cmpR op_eq (SwS.pe_lenSetT rfl (by rfl) T.f_len (by rfl) T.f_set (pv 1)) (pe_callB (wlen K) (by rfl) T.f_len bb_len (pa_cons (pv 1) pa_nil)) (nomark _)))))))))), ?_⟩)
    · obtain ⟨_, _, rfl, _⟩ := h
      rfl
    · obtain ⟨v, c, rfl, ⟨a, m, rfl, ha, hm⟩, hmt, hnd, k⟩ := h
      refine ⟨_, rfl, .ref a, .ty "tuple", _, _, true, rfl, .ty "tuple", .base (.tup ha), kit_tup, _, rfl, iteF ?_⟩
      refine ⟨_, rfl, a, _, rfl, .inr (SqT.of ha), rfl, _, rfl, iteF ?_⟩
      refine ⟨_, rfl, a, _, rfl, SqT.of ha, rfl, _, _, rfl, _, _, rfl, rfl, ?_⟩
      refine ⟨_, rfl, .ref m, .ty "tuple", _, _, true, rfl, .ty "tuple", .base (.tup hm), kit_tup, _, rfl, iteF ?_⟩
      refine ⟨_, rfl, .bl c.2, .ty "bool", _, _, true, rfl, .ty "bool", .base (.bl c.2), kit_bl, _, rfl, iteF ?_⟩
      have hl : c.1.length ≤ 5 := length_le_of_nodup_of_subset _ Tb.METHS hnd fun x hx => hmt x hx
      refine ⟨_, rfl, m, rfl, ⟨_, SqT.of hm⟩, fun D hD => ?_⟩
      refine lc_A (ws_tup (K := K) (a := m) (l := c.1)) (fun _ => .bl true) (by omega) hD (fun H' e => SqT.of (e.at hm)) ?_ ?_
      · intro z hz Hb e _ QF QT h2
        exact ⟨rfl, _, rfl, z, rfl, List.mem_append_right _ (hmt z hz), fun H1 e1 => h2 H1 e1⟩
      · intro H2 e hD2
        refine ⟨D, c.1.map fun _ => true, rfl, SqL.of (by rw [hD2, List.map_map]; rfl), ?_⟩
        have ea : (c.1.map fun _ => true).all id = true := by
          rw [List.all_map, List.all_eq_true]
          intro x _
          rfl
        rw [ea]
        refine ⟨_, rfl, iteT ⟨_, rfl, m, c.1, rfl, SqT.of (e.at hm), hnd, by omega, ?_⟩⟩
        refine ⟨_, rfl, m, _, rfl, .inr (SqT.of (e.at hm)), rfl, ?_⟩
        rw [vS_len, decide_eq_true rfl]
        exact k H2 e
  exact ⟨⟨_, fd, G, T.g_is_clause, F.kp, F.bindsN (ps := ["value"]) fun _ _ _ _ _ _ us hl => match us, hl with | [_], _ => rfl⟩⟩

theorem sc_hook_fault : FnScope ["value", "place", "clause"] ["value"] (defScope s_hook_fault) := ⟨rfl, rfl, rfl, by decide +kernel, rfl, by decide +kernel, by decide +kernel⟩
theorem ok_hook_fault (T : Tx K mg) (c_is_clause : Cal P w K mg base "is_clause" 2 ["value"] spIsClause) : Cal P w K mg base "hook_fault" 3 ["value"] spHookFault := by
  obtain ⟨fd, F⟩ := T.fn _ fi_hook_fault
  have G : FnOk P w K mg base CX0 3 d_hook_fault.f fd ["value"] spHookFault := by
    refine F.ok sc_hook_fault (fun vs H Q E h => ?_) (fun cdv A outer s H vs Q E hr h => ⟨_, PSs.nox (X := cxOf CX0 P w K mg base _ _ _ _ cdv A outer s H E) ((pss_cons (ps_if (PW.pt (pw_or (pt_not (pt_val (pe_callB (wisi K) (by rfl) T.f_isinstance bb_isinstance (pa_cons (pv 0) (pa_cons (pe_bltn (v := .ty "tuple") (by rfl) T.f_tuple bb_tuple rfl) pa_nil))))) (pw_or1 (pt_cmpR (weq K hr.units) (pv 0) (pe_tup pa_nil) (nomark _))))) (pss_one (ps_ret (pe_un un_neg pe_int))) pss_nil)
    (pss_cons (ps_for PassesOwn.never rfl (SwS.pi_enumT K (by rfl) T.f_enumerate (pa_cons (pv 0) pa_nil)) (wtup (n := 2) K rfl (pgs_cons (pg_name (i := 1) sc_hook_fault.nd rfl (Or.inl rfl)) (pgs_cons (pg_name (i := 2) sc_hook_fault.nd rfl (Or.inl rfl)) pgs_nil))) (pss_one (ps_if (pt_not (pt_val (pc c_is_clause hr rfl (pa_cons (pv 2) pa_nil)))) (pss_one (ps_ret (pv 1))) pss_nil)))
    (pss_one (ps_ret pe_non))))), ?_⟩)
    · obtain ⟨_, _, rfl, _⟩ := h
      rfl
    · obtain ⟨v, h, rfl, HA, hk, k⟩ := h
      obtain ⟨a, vs, rfl, ha, hp⟩ := id HA
      have hl := Paired.length hp
      refine ⟨_, rfl, .ref a, .ty "tuple", _, _, true, rfl, .ty "tuple", .base (.tup ha), kit_tup, _, rfl, iteF ?_⟩
      refine ⟨_, rfl, (by decide : 0 ≤ sizeLine), fun q hq => ?_⟩
      have e0 := Le.new (o := .tup []) hq
      refine ⟨.tuple (h.map dC), .tuple [], dp_mono e0 (dp_HK HA), .tup (SqT.of upd_same) .nil, hook_sh hk, by kernel_rfl, _, rfl, ?_⟩
      have en : PyData.eqv (.tuple (h.map dC)) (.tuple []) = false := by
        cases h with
        | nil => exact absurd rfl hk.ne
        | cons c r => rfl
      rw [en]
      refine iteF ⟨_, rfl, a, _, rfl, SqT.of (e0.at ha), ?_⟩
      refine for_it (SwS.walk_enumT (K := K) (a := a) (xs := vs)) (fun i σ H' => Le H H' ∧ ∃ v1 v2, σ = [some (.ref a), v1, v2]) ⟨e0, _, _, rfl⟩ (fun i σ H' _ p => SqT.of (p.1.at ha)) ?_ ?_
      · rintro i x σ Ha Hb hi ⟨e, v1, v2, rfl⟩ ⟨T1, x1, x2, rfl, hT, rfl, hx1, hx2⟩
        cases hx1
        have et := Le.new (o := .tup [.int (i : Nat), x2]) hT
        obtain ⟨c, hc, hcl⟩ := Paired.at hp hx2
        have hcm := List.mem_of_getElem? hc
        refine ⟨T1, _, rfl, SqT.of upd_same, rfl, _, _, rfl, _, _, rfl, rfl, ?_⟩
        refine ⟨_, rfl, x2, c, rfl, (hcl.mono e).mono et, hk.mt c hcm, hk.nd c hcm, fun H1 e1 => ⟨_, rfl, iteF ?_⟩⟩
        exact ⟨(e.trans et).trans e1, _, _, rfl⟩
      · rintro σ H' ⟨e, v1, v2, rfl⟩
        exact k H' e
  exact ⟨⟨_, fd, G, T.g_hook_fault, F.kp, F.bindsN (ps := ["value"]) fun _ _ _ _ _ _ us hl => match us, hl with | [_], _ => rfl⟩⟩

theorem sc_look_hook : FnScope ["hook", "is_allowed", "place"] ["hook", "is_allowed"] (defScope s_look_hook) := ⟨rfl, rfl, rfl, by decide +kernel, rfl, by decide +kernel, by decide +kernel⟩
theorem ok_look_hook (T : Tx K mg) (c_hook_fault : Cal P w K mg base "hook_fault" 3 ["value"] spHookFault) : Cal P w K mg base "look_hook" 4 ["hook", "is_allowed"] spLookHook := by
  obtain ⟨fd, F⟩ := T.fn _ fi_look_hook
  have G : FnOk P w K mg base CX0 4 d_look_hook.f fd ["hook", "is_allowed"] spLookHook := by
    refine F.ok sc_look_hook (fun vs H Q E h => ?_) (fun cdv A outer s H vs Q E hr h => ⟨_, PSs.nox (X := cxOf CX0 P w K mg base _ _ _ _ cdv A outer s H E) ((pss_cons (ps_if (pt_cmpR op_isN (pv 0) pe_non (nomark _)) (pss_one ps_retN) pss_nil)
    (pss_cons (ps_set (i := 2) sc_look_hook.nd rfl (Or.inl rfl) (pc c_hook_fault hr rfl (pa_cons (pv 0) pa_nil)))
    (pss_cons (ps_if (pt_cmpR op_notN (pv 2) pe_non (nomark _)) (pss_one ps_never) pss_nil)
    (pss_one (ps_if (pt_not (pt_val (pv 1))) (pss_one ps_never) pss_nil)))))), ?_⟩)
    · obtain ⟨_, _, _, rfl, _⟩ := h
      rfl
    · obtain ⟨v, oh, sw, rfl, ho, hs, k⟩ := h
      refine ⟨_, rfl, rfl, ?_⟩
      cases oh with
      | none =>
        cases ho
        exact ⟨_, rfl, iteT (k _ (Le.refl _))⟩
      | some h =>
        obtain ⟨hk, rfl⟩ := hs h rfl
        have hn2 : decide (v = V.non) = false := by
          obtain ⟨a, _, rfl, _⟩ := ho
          rfl
        rw [hn2]
        refine ⟨_, rfl, iteF ⟨_, rfl, v, h, rfl, ho, hk, fun H1 e1 => ?_⟩⟩
        show gName 2 _ _ _ _
        exact ⟨_, rfl, rfl, _, rfl, iteF ⟨_, rfl, _, rfl, iteF (k H1 e1)⟩⟩
  exact ⟨⟨_, fd, G, T.g_look_hook, F.kp, F.bindsN (ps := ["hook", "is_allowed"]) fun _ _ _ _ _ _ us hl => match us, hl with | [_, _], _ => rfl⟩⟩

theorem sc_look_bases : FnScope ["table", "bases", "place", "base"] ["table", "bases"] (defScope s_look_bases) := ⟨rfl, rfl, rfl, by decide +kernel, rfl, by decide +kernel, by decide +kernel⟩
theorem ok_look_bases (T : Tx K mg) (c_Table_has : CalM P w K mg base cTable "has" 1 ["self", "name"] spTHas) : Cal P w K mg base "look_bases" 2 ["table", "bases"] spLookBases := by
  obtain ⟨fd, F⟩ := T.fn _ fi_look_bases
  have G : FnOk P w K mg base CX0 2 d_look_bases.f fd ["table", "bases"] spLookBases := by
    refine F.ok sc_look_bases (fun vs H Q E h => ?_) (fun cdv A outer s H vs Q E hr h => ⟨_, PSs.nox (X := cxOf CX0 P w K mg base _ _ _ _ cdv A outer s H E) ((pss_one (ps_for PassesOwn.never rfl (SwS.pi_enumT K (by rfl) T.f_enumerate (pa_cons (pv 1) pa_nil)) (wtup (n := 2) K rfl (pgs_cons (pg_name (i := 2) sc_look_bases.nd rfl (Or.inl rfl)) (pgs_cons (pg_name (i := 3) sc_look_bases.nd rfl (Or.inl rfl)) pgs_nil))) (pss_cons (ps_if (pt_not (pt_val (pm c_Table_has hr (pv 0) (pa_cons (pv 3) pa_nil)))) (pss_one ps_never) pss_nil)
    (pss_one (ps_if (pt_cmpR (win K) (pv 3) (pe_slice (wslt K) (pv 1) po_none (po_some (pv 2))) rfl) (pss_one ps_never) pss_nil)))))), ?_⟩)
    · obtain ⟨_, _, _, _, rfl, _⟩ := h
      rfl
    · obtain ⟨t, U, bt, bs, rfl, R, hb, hin, hnd, k⟩ := h
      obtain ⟨dx, r, nb, ll, mk, ht⟩ := R.ins
      refine ⟨_, rfl, bt, _, rfl, SqT.of hb, ?_⟩
      refine for_it (SwS.walk_enumT (K := K) (a := bt) (xs := vS bs)) (fun i σ H' => Le H H' ∧ ∃ v2 v3, σ = [some (.ref t), some (.ref bt), v2, v3]) ⟨Le.refl _, _, _, rfl⟩ (fun i σ H' _ p => SqT.of (p.1.at hb)) ?_ ?_
      · rintro i x σ Ha Hb hi ⟨e, v1, v2, rfl⟩ ⟨T1, x1, x2, rfl, hT, rfl, hx1, hx2⟩
        cases hx1
        obtain ⟨z, hz, rfl⟩ := vS_get hx2
        have et := Le.new (o := .tup [.int (i : Nat), .str z]) hT
        have eb := e.trans et
        have hzm := List.mem_of_getElem? hz
        rw [vS_len] at hi
        refine ⟨T1, _, rfl, SqT.of upd_same, rfl, _, _, rfl, _, _, rfl, rfl, ?_⟩
        refine ⟨_, rfl, t, dx, _, rfl, eb.at ht, fsT_no_has, _, rfl, t, U, z, rfl, R.mono eb, fun H1 e1 => ⟨_, rfl, ?_⟩⟩
        rw [List.contains_iff_mem.mpr (hin z hzm)]
        refine iteF ⟨_, rfl, _, rfl, ?_⟩
        dsimp only [tNoPart]
        refine ⟨_, rfl, ?_⟩
        refine ⟨_, rfl, ?_⟩
        refine rsl_init (K := K) (xs := vS bs) (i := i) (by rw [vS_len]; omega) (SqT.of ((eb.trans e1).at hb)) fun p H2 e2 hp => ?_
        have hv : (vS bs).take i = vS (bs.take i) := by unfold vS; rw [List.map_take]
        rw [hv] at hp
        refine ⟨p, _, rfl, .inr hp, rfl, vS_flat _, ?_⟩
        rw [inV_vS]
        have hno : (bs.take i).contains z = false := Bool.eq_false_iff.mpr fun q => by
          obtain ⟨j, hj, ej⟩ := List.mem_iff_getElem.mp (List.contains_iff_mem.mp q)
          rw [List.getElem_take] at ej
          have hji : j < i := by rw [List.length_take] at hj; omega
          obtain ⟨hib, ei⟩ := List.getElem?_eq_some_iff.mp hz
          exact List.pairwise_iff_getElem.mp hnd j i (by omega) hib hji (by rw [ej, ei])
        rw [hno]
        exact ⟨_, rfl, iteF ⟨((e.trans et).trans e1).trans e2, _, _, rfl⟩⟩
      · rintro σ H' ⟨e, v1, v2, rfl⟩
        exact k H' e
  exact ⟨⟨_, fd, G, T.g_look_bases, F.kp, F.bindsN (ps := ["table", "bases"]) fun _ _ _ _ _ _ us hl => match us, hl with | [_, _], _ => rfl⟩⟩

end
end Sw
set_option linter.all false
set_option maxRecDepth 100000
set_option maxHeartbeats 4000000
/-! (x, *rest) = a list that is not empty. -/
namespace SwS
open PySem PySem.Spec PyProof.Rows L2
section
variable {prog : Program} {w : World} {A : Around} {E : Value → Shared → Prop} {s : Shared}
/-- a list's iterator from a place on -/
theorem walks_from (hh : A.handled = none) (I ax : Addr) (hne : ax ≠ I) (items : Array Value) (k : Nat) (hk : k ≤ items.size) :
    Walks prog w A I [I, ax] [I] (items.size - k) (fun i v => items[k + i]? = some v) (fun i h => h.IsListIter I ax (k + i) ∧ h.IsList ax items) where
  sub := fun b hb => by simp at hb; simp [hb]
  frame := fun _ _ _ st hk => ⟨st.1.at fun o e => hk I (by simp) o e, st.2.at fun o e => hk ax (by simp) o e⟩
  item := fun i s Q E hi st hQ => by
    have hlt : k + i < items.size := by omega
    refine wpAny_pyNext_list_item st.1 st.2 (x := items[k + i]) (by simp [hlt]) fun h' hit' hs' => ?_
    exact hQ _ h' s.toks (by simp [hlt]) ⟨by rw [show k + (i + 1) = k + i + 1 by omega]; exact hit', st.2.extBut hs'.extBut hne⟩ fun b o hb e => hs'.extBut b o (fun h => hb (by simp [h])) e
  done := fun s Q E st hQ => by
    rw [show k + (items.size - k) = items.size by omega] at st
    exact wpAny_pyNext_list_end hh st.1 st.2 (by simp) fun h' he' => hQ h' s.toks fun b o hb e => he' b o (fun h => hb (by simp [h])) e
  self := fun _ _ _ _ st hQ => wpAny_pyIter_listiter st.1 hQ
theorem items_drop {items : Array Value} {k : Nat} {acc : Array Value} (hk : k ≤ items.size) (h : ItemsOf (fun i v => items[k + i]? = some v) acc (items.size - k)) : acc.toList = items.toList.drop k := by
  apply List.ext_getElem?
  intro j
  rw [List.getElem?_drop]
  by_cases hj : j < items.size - k
  · have hja : j < acc.size := by rw [h.1]; exact hj
    have q := h.2 j acc[j] (by simp [hja])
    rw [Array.getElem?_toList, Array.getElem?_toList, q]
    simp [hja]
  · rw [List.getElem?_eq_none (by rw [Array.length_toList, h.1]; omega), List.getElem?_eq_none (by rw [Array.length_toList]; omega)]
theorem unpack_star {l : Addr} {items : Array Value} {x : Value} {rest : List Value} {Q : List Value → Shared → Prop} (hh : A.handled = none) (hl : s.heap.IsList l items) (hi : items.toList = x :: rest) (hz : items.size ≤ sizeLine)
    (hQ : ∀ (h' : Heap) (tk : Nat), (∀ b o, s.heap.get? b = some o → h'.get? b = some o) → Q [x, .ref h'.objs.size] { s with heap := h'.push { cls := .type "list", data := .seq rest.toArray }, toks := tk }) :
    wpAny (model prog w) A (unpackItems (.ref l) 2 (some 1)) Q E s := by
  have hsz : items.size = rest.length + 1 := by rw [← Array.length_toList, hi]; rfl
  have hlt : l ≠ s.heap.objs.size := by obtain ⟨o, ho, _⟩ := hl; exact Nat.ne_of_lt (Heap.lt_size ho)
  have hll : l < s.heap.objs.size := by obtain ⟨o, ho, _⟩ := hl; exact Heap.lt_size ho
  unfold unpackItems
  refine wpAny_bind ?_
  unfold notIterableAtAll
  refine wpAny_bind (wpAny_specialOf hl.typeIs slot_list_iter.lookup ?_)
  refine wpAny_pure ?_
  simp only [Bool.false_eq_true, if_false]
  refine wpAny_bind (wpAny_holding (wpAny_pyIter_list hl ?_))
  refine wpAny_bind (wpAny_holding (PySem.W.kun_draw hlt 1 0 _ _ ⟨_, Heap.get?_push_size _ rfl, rfl, rfl⟩ (hl.push _) (by omega) fun h₁ hit₁ hs₁ => ?_))
  have h0 : List.take 1 (List.drop 0 items.toList) = [x] := by rw [hi]; rfl
  rw [h0]
  rw [if_neg (by simp)]
  have hl₁ : h₁.IsList l items := (hl.push _).extBut hs₁.extBut hlt
  have hsz1 : h₁.objs.size = s.heap.objs.size + 1 := by rw [hs₁.1, Heap.size_push]
  have old : ∀ b o, s.heap.get? b = some o → h₁.get? b = some o := fun b o e => hs₁.extBut b o (Nat.ne_of_lt (Heap.lt_size e)) (Heap.get?_push_of_some _ e)
  have hh1 : A.in1.handled = none := by simp [hh]
  refine wpAny_bind (wpAny_holding (wpAny_collect_iter (T := "list_iterator") (s := { s with heap := h₁ }) (.inr (.inr (.inl rfl))) ((walks_from hh1 s.heap.objs.size l hlt items 1 (by omega)).toS) (fun i s st => st.1.typeIs) ⟨hit₁, hl₁⟩ (fun b hb => ?_) (by simp) (fun s' acc hm hacc => ?_) (by omega)))
  · have e' : b = s.heap.objs.size ∨ b = l := by simpa using hb
    show b < h₁.objs.size
    have e2 : h₁.objs.size = s.heap.objs.size + 1 := hsz1
    rcases e' with z | z
    · rw [z, e2]; exact Nat.lt_succ_self _
    · rw [z, e2]; exact Nat.lt_succ_of_lt hll
  · have ea := items_drop (by omega) hacc
    rw [hi] at ea
    have ea' : acc.toList = rest := ea
    rw [ea']
    rw [if_neg (by show ¬ rest.length < 2 - 1 - 1; omega)]
    have e1 : rest.length - (2 - 1 - 1) = rest.length := by omega
    rw [e1, List.take_length, List.drop_length]
    have es := hm.eq_with
    rw [es]
    refine wpAny_bind (wpAny_newList ?_ (by omega))
    refine wpAny_pure ?_
    exact hQ s'.heap s'.toks fun b o e => hm.heap b o (fun z => absurd (Heap.lt_size e) (by rw [List.mem_singleton.mp z]; exact Nat.lt_irrefl _)) (old b o e)
end
section
variable {X : Cx}
def gStar (K : PySem.W.Frag) (t1 t2 : TG) : TG := fun v σ H Q => ∃ a x xs, v = .ref a ∧ SqL K H a (x :: xs) ∧ ∀ p, H p = none → t1 x σ (upd H p (.lst xs)) fun σ1 H1 => t2 (.ref p) σ1 H1 Q
theorem pg_star {e1 e2 : Expr} {k : Nat} {t1 t2 : TG} {pos sp : Pos} (K : PySem.W.Frag) (hc : X.calm = true) (h1 : PG X e1 t1) (h2 : PG X e2 t2) (hn : (assignEach [e1, .Starred e2 sp] X.env).length = 2 := by rfl)
    (hst : (assignEach [e1, .Starred e2 sp] X.env).findIdx? (·.1) = some 1 := by rfl) (ha : (assignEach [e1, .Starred e2 sp] X.env).map (·.2) = [assign e1 X.env, assign e2 X.env] := by rfl) (hK : X.K = K := by rfl) : PG X (.Tuple [e1, .Starred e2 sp] k pos) (gStar K t1 t2) := by
  subst hK
  refine ⟨fun pins s σ H v u Q I r hw => ?_⟩
  obtain ⟨a, x, xs, e, hq, hw⟩ := hw
  subst e
  cases r
  obtain ⟨its, rv, pl, hz⟩ := I.list hq
  cases rv with
  | cons rx rxs =>
    rename_i u0 us
    rw [arm_assign_Tuple]
    refine wpAny_bind (wpAny_standAt ?_)
    unfold unpack
    rw [hn, hst, ha]
    have hl : us.length = xs.length := rxs.length.symm
    refine wpAny_bind (wpAny_holding (unpack_star (I.ok.hd hc) pl.isList (x := u0) (rest := us) (by simp) (by simp at hz ⊢; omega) fun h' tk hk => ?_))
    have I' : Inv X pins σ H { s with heap := h', toks := tk } := I.kept (t' := tk) hk
    have hf : H h'.objs.size = none := I'.hok.fresh (Nat.le_refl _)
    have I1 : Inv X pins σ (upd H h'.objs.size (.lst xs)) { s with heap := h'.push { cls := .type "list", data := .seq us.toArray }, toks := tk } :=
      I'.laid (t' := tk) (fun b o e => Heap.get?_push_of_some _ e) (Nat.le_refl _) ⟨by simp at hz; omega, us, 0, rxs, Heap.get?_push_size _ rfl⟩
    refine assignInOrder_cons (thn (h1.run pins _ σ _ x u0 _ I1 rx (hw _ hf)) fun _ s1 ⟨σ1, H1, I2, q⟩ => ?_)
    exact assignInOrder_cons (thn (h2.run pins s1 σ1 H1 (.ref h'.objs.size) (.ref h'.objs.size) Q I2 rfl q) fun _ s2 q => assignInOrder_nil q)
end
end SwS
/-! The merge of orders, in plain Lean. -/
namespace Sw
section
variable {α : Type} [DecidableEq α]
def heads (ws : List (List α)) : List α := ws.filterMap List.head?
def canBe (ws : List (List α)) (h : α) : Bool := ws.all fun r => !(r.drop 1).contains h
def pick (ws : List (List α)) : Option α := (heads ws).find? (canBe ws)
def clean (f : α) (ws : List (List α)) : List (List α) := (ws.map fun r => r.filter fun x => !decide (x = f)).filter fun r => !r.isEmpty
def mrgF : Nat → List (List α) → Option (List α)
  | 0, _ => none
  | k + 1, ws => if ws.isEmpty then some [] else match pick ws with
    | none => none
    | some f => (mrgF k (clean f ws)).map (f :: ·)
def tot (ws : List (List α)) : Nat := (ws.map List.length).sum
def mrg (ls : List (List α)) : Option (List α) := mrgF (tot ls + 1) (ls.filter fun r => !r.isEmpty)
theorem mem_clean {f : α} {ws : List (List α)} {x : α} : (∃ l ∈ clean f ws, x ∈ l) ↔ x ≠ f ∧ ∃ l ∈ ws, x ∈ l := by
  constructor
  · rintro ⟨l, hl, hx⟩
    obtain ⟨h1, _⟩ := List.mem_filter.mp hl
    obtain ⟨r, hr, rfl⟩ := List.mem_map.mp h1
    obtain ⟨h3, h4⟩ := List.mem_filter.mp hx
    exact ⟨by simpa using h4, r, hr, h3⟩
  · rintro ⟨hf, r, hr, hx⟩
    have hm : x ∈ r.filter fun x => !decide (x = f) := List.mem_filter.mpr ⟨hx, by simpa using hf⟩
    refine ⟨_, List.mem_filter.mpr ⟨List.mem_map.mpr ⟨r, hr, rfl⟩, ?_⟩, hm⟩
    cases h : r.filter fun x => !decide (x = f) with
    | nil => rw [h] at hm; cases hm
    | cons a l => rfl
theorem pick_mem {ws : List (List α)} {f : α} (h : pick ws = some f) : ∃ l ∈ ws, f ∈ l := by
  have h1 := List.mem_of_find?_eq_some h
  obtain ⟨l, hl, h2⟩ := List.mem_filterMap.mp h1
  refine ⟨l, hl, ?_⟩
  cases l with
  | nil => cases h2
  | cons a r => cases h2; exact List.mem_cons_self
theorem mrgF_mem : ∀ {k : Nat} {ws : List (List α)} {r : List α}, mrgF k ws = some r → ∀ x, x ∈ r ↔ ∃ l ∈ ws, x ∈ l
  | 0, _, _, h => by cases h
  | k + 1, ws, r, h => by
    unfold mrgF at h
    split at h
    · rename_i he
      cases h
      have : ws = [] := List.isEmpty_iff.mp he
      subst this
      intro x
      simp
    · split at h
      · cases h
      · rename_i f hf
        cases h2 : mrgF k (clean f ws) with
        | none => rw [h2] at h; cases h
        | some r2 =>
          rw [h2] at h
          cases h
          intro x
          have ih := mrgF_mem h2 x
          have hm := pick_mem hf
          rw [mem_clean] at ih
          show x ∈ f :: r2 ↔ _
          rw [List.mem_cons, ih]
          constructor
          · rintro (e | e)
            · rw [e]; exact hm
            · exact e.2
          · intro e
            by_cases hx : x = f
            · exact .inl hx
            · exact .inr ⟨hx, e⟩
theorem mrgF_nd : ∀ {k : Nat} {ws : List (List α)} {r : List α}, mrgF k ws = some r → r.Nodup
  | 0, _, _, h => by cases h
  | k + 1, ws, r, h => by
    unfold mrgF at h
    split at h
    · cases h; exact List.nodup_nil
    · split at h
      · cases h
      · rename_i f hf
        cases h2 : mrgF k (clean f ws) with
        | none => rw [h2] at h; cases h
        | some r2 =>
          rw [h2] at h
          cases h
          show (f :: r2).Nodup
          rw [List.nodup_cons]
          exact ⟨fun z => ((mem_clean.mp ((mrgF_mem h2 f).mp z)).1 rfl), mrgF_nd h2⟩
theorem filt_self {f : α} {r : List α} (h : f ∉ r) : r.filter (fun x => !decide (x = f)) = r := List.filter_eq_self.mpr fun x hx => by
  simp only [Bool.not_eq_true', decide_eq_false_iff_not]
  exact fun z => h (by rw [← z]; exact hx)
theorem mrgF_one : ∀ {l : List α} {k : Nat}, l.Nodup → l.length < k → mrgF k (if l.isEmpty then [] else [l]) = some l
  | [], k + 1, _, _ => rfl
  | a :: l, k + 1, hn, hk => by
    obtain ⟨h1, h2⟩ := List.nodup_cons.mp hn
    have hp : pick [a :: l] = some a := by
      have hc : canBe [a :: l] a = true := by
        simp only [canBe, List.all_cons, List.drop_succ_cons, List.drop_zero, List.all_nil, Bool.and_true, Bool.not_eq_true', Bool.eq_false_iff]
        exact fun z => h1 (by simpa using z)
      show (heads [a :: l]).find? (canBe [a :: l]) = some a
      show [a].find? (canBe [a :: l]) = some a
      rw [List.find?_cons, hc]
    have hc : clean a [a :: l] = if l.isEmpty then [] else [l] := by
      have e : (a :: l).filter (fun x => !decide (x = a)) = l := by rw [List.filter_cons, if_neg (by simp), filt_self h1]
      unfold clean
      rw [List.map_cons, List.map_nil, e]
      cases l <;> rfl
    show mrgF (k + 1) [a :: l] = _
    unfold mrgF
    rw [hp]
    show (mrgF k (clean a [a :: l])).map (a :: ·) = _
    rw [hc, mrgF_one h2 (by simpa using hk)]
    rfl
theorem mrg_back {b : α} {l : List α} (hn : (b :: l).Nodup) : mrg [b :: l, [b]] = some (b :: l) := by
  obtain ⟨h1, h2⟩ := List.nodup_cons.mp hn
  have hp : pick [b :: l, [b]] = some b := by
    have hc : canBe [b :: l, [b]] b = true := by
      simp only [canBe, List.all_cons, List.drop_succ_cons, List.drop_zero, List.all_nil, Bool.and_true, Bool.and_eq_true, Bool.not_eq_true', Bool.eq_false_iff]
      exact ⟨fun z => h1 (by simpa using z), fun z => by cases z⟩
    show [b, b].find? (canBe [b :: l, [b]]) = some b
    rw [List.find?_cons, hc]
  have hc : clean b [b :: l, [b]] = if l.isEmpty then [] else [l] := by
    have e : (b :: l).filter (fun x => !decide (x = b)) = l := by rw [List.filter_cons, if_neg (by simp), filt_self h1]
    have e2 : [b].filter (fun x => !decide (x = b)) = [] := by rw [List.filter_cons, if_neg (by simp)]; rfl
    unfold clean
    rw [List.map_cons, List.map_cons, List.map_nil, e, e2]
    cases l <;> rfl
  unfold mrg
  show mrgF (tot [b :: l, [b]] + 1) [b :: l, [b]] = _
  unfold mrgF
  rw [hp]
  show (mrgF (tot [b :: l, [b]]) (clean b [b :: l, [b]])).map (b :: ·) = _
  rw [hc, mrgF_one h2 (by simp [tot]; omega)]
  rfl
theorem mrg_mem {ls : List (List α)} {r : List α} (h : mrg ls = some r) (x : α) : x ∈ r ↔ ∃ l ∈ ls, x ∈ l := by
  rw [mrgF_mem h x]
  constructor
  · rintro ⟨l, hl, hx⟩
    exact ⟨l, (List.mem_filter.mp hl).1, hx⟩
  · rintro ⟨l, hl, hx⟩
    refine ⟨l, List.mem_filter.mpr ⟨hl, ?_⟩, hx⟩
    cases l with
    | nil => cases hx
    | cons a l => rfl
theorem mrg_nd {ls : List (List α)} {r : List α} (h : mrg ls = some r) : r.Nodup := mrgF_nd h
end
end Sw
/-! More of the merge: the fuel. -/
namespace Sw
section
variable {α : Type} [DecidableEq α]
theorem tot_cons (r : List α) (ws : List (List α)) : tot (r :: ws) = r.length + tot ws := by unfold tot; rw [List.map_cons, List.sum_cons]
theorem tot_ne (ws : List (List α)) : tot (ws.filter fun r => !r.isEmpty) = tot ws := by
  induction ws with
  | nil => rfl
  | cons r ws ih =>
    rw [List.filter_cons, tot_cons]
    cases r with
    | nil => rw [if_neg (by simp), ih]; simp
    | cons a l => rw [if_pos (by rfl), tot_cons, ih]
theorem tot_rm_le (f : α) (ws : List (List α)) : tot (ws.map fun r => r.filter fun x => !decide (x = f)) ≤ tot ws := by
  induction ws with
  | nil => exact Nat.le_refl _
  | cons r ws ih =>
    rw [List.map_cons, tot_cons, tot_cons]
    have := List.length_filter_le (fun x => !decide (x = f)) r
    omega
theorem tot_rm {f : α} {ws : List (List α)} (h : ∃ l ∈ ws, f ∈ l) : tot (ws.map fun r => r.filter fun x => !decide (x = f)) < tot ws := by
  induction ws with
  | nil => obtain ⟨l, hl, _⟩ := h; cases hl
  | cons r ws ih =>
    rw [List.map_cons, tot_cons, tot_cons]
    have h1 := List.length_filter_le (fun x => !decide (x = f)) r
    have h2 := tot_rm_le f ws
    obtain ⟨l, hl, hf⟩ := h
    rcases List.mem_cons.mp hl with e | e
    · subst e
      have : (l.filter fun x => !decide (x = f)).length < l.length := by
        refine Nat.lt_of_le_of_ne h1 fun z => ?_
        have q := List.length_filter_eq_length_iff.mp z f hf
        simp at q
      omega
    · have := ih ⟨l, e, hf⟩
      omega
theorem tot_clean {f : α} {ws : List (List α)} (h : pick ws = some f) : tot (clean f ws) < tot ws := by
  unfold clean
  rw [tot_ne]
  exact tot_rm (pick_mem h)
theorem mrgF_step {k : Nat} {ws : List (List α)} {f : α} (h0 : ws ≠ []) (h : pick ws = some f) : mrgF (k + 1) ws = (mrgF k (clean f ws)).map (f :: ·) := by
  have e : ws.isEmpty = false := by cases ws with | nil => exact absurd rfl h0 | cons a l => rfl
  show (if ws.isEmpty then some [] else match pick ws with | none => none | some f => (mrgF k (clean f ws)).map (f :: ·)) = _
  rw [e, h]
  rfl
theorem mrgF_none {k : Nat} {ws : List (List α)} (h0 : ws ≠ []) (h : pick ws = none) : mrgF (k + 1) ws = none := by
  have e : ws.isEmpty = false := by cases ws with | nil => exact absurd rfl h0 | cons a l => rfl
  show (if ws.isEmpty then some [] else match pick ws with | none => none | some f => (mrgF k (clean f ws)).map (f :: ·)) = _
  rw [e, h]
  rfl
/-- a merge on the way: fs found, ws left -/
structure MrgI (ls : List (List α)) (fs : List α) (ws : List (List α)) (k : Nat) : Prop where
  eq : mrg ls = (mrgF k ws).map (fs ++ ·)
  lt : tot ws < k
  sz : fs.length + tot ws ≤ tot ls
  mem : ∀ r ∈ ws, ∀ x ∈ r, ∃ l ∈ ls, x ∈ l
  ln : ws.length ≤ ls.length
theorem MrgI.start (ls : List (List α)) : MrgI ls [] (ls.filter fun r => !r.isEmpty) (tot ls + 1) := by
  refine ⟨?_, by rw [tot_ne]; exact Nat.lt_succ_self _, by rw [tot_ne]; simp, fun r hr x hx => ⟨r, (List.mem_filter.mp hr).1, hx⟩, List.length_filter_le ..⟩
  unfold mrg
  cases mrgF (tot ls + 1) (ls.filter fun r => !r.isEmpty) <;> rfl
theorem MrgI.step {ls : List (List α)} {fs : List α} {ws : List (List α)} {k : Nat} {f : α} (h : MrgI ls fs ws k) (h0 : ws ≠ []) (hp : pick ws = some f) : ∃ k', k' < k ∧ MrgI ls (fs ++ [f]) (clean f ws) k' := by
  have hl := h.lt
  have ht := tot_clean hp
  obtain ⟨k', rfl⟩ : ∃ k', k = k' + 1 := ⟨k - 1, by omega⟩
  refine ⟨k', Nat.lt_succ_self _, ?_, by omega, by rw [List.length_append]; have := h.sz; show _ + 1 + _ ≤ _; omega, fun r hr x hx => ?_, ?_⟩
  · rw [h.eq, mrgF_step h0 hp]
    cases mrgF k' (clean f ws) with
    | none => rfl
    | some r => show some (fs ++ f :: r) = some ((fs ++ [f]) ++ r); rw [List.append_assoc]; rfl
  · obtain ⟨h1, r2, h2, h3⟩ := mem_clean.mp ⟨r, hr, hx⟩
    exact h.mem r2 h2 x h3
  · unfold clean
    have h1 := List.length_filter_le (fun r : List α => !r.isEmpty) (ws.map fun r => r.filter fun x => !decide (x = f))
    rw [List.length_map] at h1
    have := h.ln
    omega
theorem MrgI.stuck {ls : List (List α)} {fs : List α} {ws : List (List α)} {k : Nat} (h : MrgI ls fs ws k) (h0 : ws ≠ []) (hp : pick ws = none) : mrg ls = none := by
  have hl := h.lt
  obtain ⟨k', rfl⟩ : ∃ k', k = k' + 1 := ⟨k - 1, by omega⟩
  rw [h.eq, mrgF_none h0 hp]
  rfl
theorem MrgI.fin {ls : List (List α)} {fs : List α} {k : Nat} (h : MrgI ls fs [] k) : mrg ls = some fs := by
  have hl := h.lt
  obtain ⟨k', rfl⟩ : ∃ k', k = k' + 1 := ⟨k - 1, by omega⟩
  rw [h.eq]
  show some (fs ++ []) = some fs
  rw [List.append_nil]
/-- the first head that can be first, place by place -/
theorem pick_at {ws : List (List α)} (hne : ∀ r ∈ ws, r ≠ []) {i : Nat} {x : α} {xs : List α} (hi : ws[i]? = some (x :: xs)) (hno : ∀ y ∈ heads (ws.take i), canBe ws y = false) (hx : canBe ws x = true) : pick ws = some x := by
  unfold pick
  have e : ws = ws.take i ++ (x :: xs) :: ws.drop (i + 1) := by
    obtain ⟨hl, e⟩ := List.getElem?_eq_some_iff.mp hi
    rw [← e, ← List.drop_eq_getElem_cons hl, List.take_append_drop]
  have eh : heads ws = heads (ws.take i) ++ x :: heads (ws.drop (i + 1)) := by
    conv => lhs; rw [e]
    unfold heads
    rw [List.filterMap_append, List.filterMap_cons]
    rfl
  rw [eh, List.find?_append]
  have h1 : (heads (ws.take i)).find? (canBe ws) = none := List.find?_eq_none.mpr fun y hy => by rw [hno y hy]; exact Bool.false_ne_true
  rw [h1, Option.none_or, List.find?_cons, hx]
theorem pick_no {ws : List (List α)} (hno : ∀ y ∈ heads ws, canBe ws y = false) : pick ws = none := List.find?_eq_none.mpr fun y hy => by rw [hno y hy]; exact Bool.false_ne_true
theorem heads_take {ws : List (List α)} {i : Nat} {x : α} {xs : List α} (hi : ws[i]? = some (x :: xs)) : heads (ws.take (i + 1)) = heads (ws.take i) ++ [x] := by
  unfold heads
  rw [List.take_add_one, hi, List.filterMap_append]
  rfl
end
end Sw
set_option linter.all false
set_option maxRecDepth 100000
set_option maxHeartbeats 4000000
/-! SwF26: the merge. Terms printed by gen_term.py. -/
namespace Sw
open PySem PySem.Spec PyProof.Rows L2 LamX
section
variable {P : Program} {w : World} {K : PySem.W.Frag} {mg : Str → Option Value} {base : Heap}


/-- a list of lists of names -/
def LLAt (H : Hp) (w : Addr) (ws : List (List Str)) : Prop := ∃ rs, H w = some (.lst rs) ∧ Paired (fun r v => RdAt H v r) ws rs
theorem LLAt.mono {H H' : Hp} {w : Addr} {ws : List (List Str)} (e : Le H H') (h : LLAt H w ws) : LLAt H' w ws := by
  obtain ⟨rs, h1, h2⟩ := h
  exact ⟨rs, e.at h1, Paired.mapP h2 fun _ _ q => q.mono e⟩
/-- the same, none of the lists being f -/
def LLF (H : Hp) (f w : Addr) (ws : List (List Str)) : Prop := ∃ rs, w ≠ f ∧ H w = some (.lst rs) ∧ Paired (fun r v => ∃ a, v = .ref a ∧ a ≠ f ∧ H a = some (.lst (vS r))) ws rs
theorem LLF.mono {H H' : Hp} {f w : Addr} {ws : List (List Str)} (e : Le H H') (h : LLF H f w ws) : LLF H' f w ws := by
  obtain ⟨rs, h0, h1, h2⟩ := h
  exact ⟨rs, h0, e.at h1, Paired.mapP h2 fun _ _ ⟨a, x, y, z⟩ => ⟨a, x, y, e.at z⟩⟩
theorem LLF.upd {H : Hp} {f w : Addr} {o : HO} {ws : List (List Str)} (h : LLF H f w ws) : LLF (L2.upd H f o) f w ws := by
  obtain ⟨rs, h0, h1, h2⟩ := h
  exact ⟨rs, h0, (upd_ne h0).trans h1, Paired.mapP h2 fun _ _ ⟨a, x, y, z⟩ => ⟨a, x, y, (upd_ne y).trans z⟩⟩
theorem LLF.of {H : Hp} {f w : Addr} {o : HO} {ws : List (List Str)} (hf : H f = none) (h : LLAt H w ws) : LLF (L2.upd H f o) f w ws := by
  obtain ⟨rs, h1, h2⟩ := h
  have ne : ∀ {b : Addr} {u : HO}, H b = some u → b ≠ f := fun hb z => by rw [z, hf] at hb; cases hb
  exact ⟨rs, ne h1, (upd_ne (ne h1)).trans h1, Paired.mapP h2 fun _ _ ⟨a, x, y⟩ => ⟨a, x, ne y, (upd_ne (ne y)).trans y⟩⟩
theorem LLF.ll {H : Hp} {f w : Addr} {ws : List (List Str)} (h : LLF H f w ws) : ∃ rs, H w = some (.lst rs) ∧ Paired (fun r v => RdAt H v r) ws rs := by
  obtain ⟨rs, h0, h1, h2⟩ := h
  exact ⟨rs, h1, Paired.mapP h2 fun _ _ ⟨a, x, y, z⟩ => ⟨a, x, z⟩⟩
def OrdAt (H : Hp) (v : V) : Option (List Str) → Prop
  | none => v = .non
  | some r => ∃ p, v = .ref p ∧ H p = some (.lst (vS r))
def spMerged : Sp := fun vs H Q _ => ∃ l ls, vs = [.ref l] ∧ LLAt H l ls ∧ ls.length ≤ 10 ∧ tot ls ≤ 100 ∧ (∀ r ∈ ls, ∀ x ∈ r, x ∈ Tb.NAMES) ∧ ∀ v H', Le H H' → OrdAt H' v (mrg ls) → Q v H'
theorem tot_mem {ls : List (List Str)} {r : List Str} (h : r ∈ ls) : r.length ≤ tot ls := by
  induction ls with
  | nil => cases h
  | cons a l ih =>
    rw [tot_cons]
    rcases List.mem_cons.mp h with e | e
    · rw [e]; omega
    · have := ih e; omega
theorem for_itE {J : It} {n : Nat} {G : Hp → Prop} {Y : Nat → Hp → V → Hp → Prop} (w : Walk J n G Y) {g : TG} {tb : TS} {D : Ends} {σ : L2.St} {H : Hp} {Qs : L2.St → Hp → Prop} (Pv : Nat → L2.St → Hp → Prop) (h0 : Pv 0 σ H) (hG : ∀ i σ H, i ≤ n → Pv i σ H → G H)
    (hs : ∀ i x σ H H', i < n → Pv i σ H → Y i H x H' → g x σ H' fun σ2 H2 => tb { D with nx := Pv (i + 1), ct := Pv (i + 1), bk := D.nx } σ2 H2) (hd : ∀ σ H, Pv n σ H → Qs σ H) :
    ∃ W : Nat → Nat → L2.St → Hp → Prop, (∃ m, W 0 m σ H) ∧ ∀ i m σ H, W i m σ H →
      (J.stop i H ∧ Qs σ H) ∨ (J.go i H ∧ ∃ N : L2.St → Hp → Prop, (∀ σ' H', N σ' H' → ∃ m', m' < m ∧ W (i + 1) m' σ' H') ∧ ∀ x H', J.yld i H x H' → g x σ H' fun σ2 H2 => tb { D with nx := N, ct := N, bk := D.nx } σ2 H2) := by
  refine ⟨fun i m σ H => m = n - i ∧ i ≤ n ∧ Pv i σ H, ⟨n, by simp, Nat.zero_le _, h0⟩, ?_⟩
  rintro i m σ H ⟨rfl, hi, p⟩
  have q := hG i σ H hi p
  by_cases hlt : i < n
  · exact .inr ⟨w.goes i H hlt q, Pv (i + 1), fun σ' H' p' => ⟨n - (i + 1), by omega, rfl, hlt, p'⟩, fun x H' y => hs i x σ H H' hlt p (w.yields i H x H' hlt q y)⟩
  · obtain rfl : i = n := by omega
    exact .inl ⟨w.stops H q, hd σ H p⟩
theorem canBe_eq (ws : List (List Str)) (x : Str) : (ws.all fun r => !(r.drop 1).contains x) = canBe ws x := by
  unfold canBe
  congr 1
theorem eqv_nil (r : List Str) : PyData.eqv (.list (dS r)) (.list []) = r.isEmpty := by cases r <;> rfl
theorem shaped_S {r : List Str} (h : ∀ x ∈ r, PyData.strOk x = true) : SeqAt.shaped (.list (dS r)) = true := by
  obtain ⟨a, b⟩ := lay_S h
  unfold SeqAt.shaped
  rw [show PyData.canLay0 (.list (dS r)) = PyData.canLayAll0 (dS r) from rfl, a, Bool.true_and, decide_eq_true_eq]
  show PyData.depthAll (dS r) + 1 ≤ 64
  omega
theorem got_all {α : Type} {l : List α} {R : α → V → Prop} {p : Nat → Bool} (hp : ∀ i, p i = true) {ys : List V} {n : Nat} (hn : n = l.length) (h : Paired (fun i y => ∃ m, l[i]? = some m ∧ R m y) ((List.range n).filter p) ys) : Paired R l ys := by
  rw [List.filter_eq_self.mpr fun i _ => hp i] at h
  exact got_paired hn h

theorem sc_merged : FnScope ["lists", "waiting", "found", "first", "rest", "one", "name"] ["lists"] (defScope s_merged) := ⟨rfl, rfl, rfl, by decide +kernel, rfl, by decide +kernel, by decide +kernel⟩
theorem ok_merged (T : Tx K mg) (c_can_be_first : Cal P w K mg base "can_be_first" 1 ["name", "lists"] spCanBe) : Cal P w K mg base "merged" 2 ["lists"] spMerged := by
  obtain ⟨fd, F⟩ := T.fn _ fi_merged
  have G : FnOk P w K mg base CX0 2 d_merged.f fd ["lists"] spMerged := by
    refine F.ok sc_merged (fun vs H Q E h => ?_) (fun cdv A outer s H vs Q E hr h => ⟨_, PSs.nox (X := cxOf CX0 P w K mg base _ _ _ _ cdv A outer s H E) ((pss_cons (ps_setLc (i := 1) (own := [("one", 5)]) rfl sc_merged.nd rfl rfl (sw_true rfl rfl rfl (by decide +kernel)) (wlist K (pv 0)) (blkOk_by (N := ["lists", "waiting", "found", "first", "rest", "one", "name"]) (sc := defScope s_merged) (own := [("one", 5)]) (by decide +kernel)) (fun _ _ _ _ _ => (pg_name (i := 5) sc_merged.nd rfl (Or.inl rfl))) (fun _ _ _ _ _ => (pts_one (pt_cmpR (wne K hr.units) (pv 5) (pe_lst pa_nil) (nomark _)))) (fun _ _ _ _ _ => (pe_callTy (wlistof K) (by rfl) T.f_list bb_list (pa_cons (pv 5) pa_nil))))
    (pss_cons (ps_set (i := 2) sc_merged.nd rfl (Or.inl rfl) (pe_lst pa_nil))
    (pss_cons (ps_while PassesOwn.never (pt_cmpR (wne K hr.units) (pv 1) (pe_lst pa_nil) (nomark _)) (pss_cons (ps_forE PassesOwn.never rfl (wlist K (pv 1)) (SwS.pg_star K rfl (pg_name (i := 3) sc_merged.nd rfl (Or.inr rfl)) (pg_name (i := 4) sc_merged.nd rfl (Or.inl rfl))) (pss_one (ps_if (pt_val (pc c_can_be_first hr rfl (pa_cons (pv 3) (pa_cons (pv 1) pa_nil)))) (pss_one ps_break) pss_nil)) (pss_one (ps_ret pe_non)))
    (pss_cons (ps_expr (wapp K (pv 2) (pv 3)))
    (pss_cons (ps_setLc (i := 1) (own := [("one", 5)]) rfl sc_merged.nd rfl rfl (sw_true rfl rfl rfl (by decide +kernel)) (wlist K (pv 1)) (blkOk_by (N := ["lists", "waiting", "found", "first", "rest", "one", "name"]) (sc := defScope s_merged) (own := [("one", 5)]) (by decide +kernel)) (fun _ _ _ _ _ => (pg_name (i := 5) sc_merged.nd rfl (Or.inl rfl))) (fun _ _ _ _ _ => pts_nil) (fun _ _ _ _ _ => (pe_lc (own := [("name", 6)]) rfl sc_merged.nd (wlist K (pv 5)) (blkOk_by (N := ["lists", "waiting", "found", "first", "rest", "one", "name"]) (sc := (relS ({ kind := .function, names := [(".0", .local), ("one", .local), ("first", .free)], isGenerator := false, isCoroutine := false } : Scope) (defScope s_merged))) (own := [("name", 6)]) (by decide +kernel)) (fun _ _ _ _ _ => (pg_name (i := 6) sc_merged.nd rfl (Or.inl rfl))) (fun _ _ _ _ _ => (pts_one (pt_cmpR op_ne (pv 6) (pv 3) (nomark _)))) (fun _ _ _ _ _ => (pv 6)))))
    (pss_one (ps_setLc (i := 1) (own := [("one", 5)]) rfl sc_merged.nd rfl rfl (sw_true rfl rfl rfl (by decide +kernel)) (wlist K (pv 1)) (blkOk_by (N := ["lists", "waiting", "found", "first", "rest", "one", "name"]) (sc := defScope s_merged) (own := [("one", 5)]) (by decide +kernel)) (fun _ _ _ _ _ => (pg_name (i := 5) sc_merged.nd rfl (Or.inl rfl))) (fun _ _ _ _ _ => (pts_one (pt_cmpR (wne K hr.units) (pv 5) (pe_lst pa_nil) (nomark _)))) (fun _ _ _ _ _ => (pv 5))))))))
    (pss_one (ps_ret (pv 2))))))), ?_⟩)
    · obtain ⟨_, _, rfl, _⟩ := h
      rfl
    · obtain ⟨l, ls, rfl, ⟨rs, hl, hp⟩, hz, htz, hnm, k⟩ := h
      have hlen := Paired.length hp
      have hok : ∀ r ∈ ls, ∀ x ∈ r, PyData.strOk x = true := fun r hr x hx => nm_ok (hnm r hr x hx)
      refine ⟨_, rfl, l, rfl, ⟨rs, SqL.of hl⟩, fun D hD => ?_⟩
      refine lc_go (walk_list (K := K) (a := l) (xs := rs)) (fun D i y H' => ∃ r, ls[i]? = some r ∧ ∃ a, y = .ref a ∧ a ≠ D ∧ H' a = some (.lst (vS r))) (fun i => !(ls.getD i []).isEmpty) (by omega) hD (fun i H x H' y => by rw [y.1]; exact Le.refl _) (fun H' e => SqL.of (e.at hl)) ?_ ?_ ?_
      · rintro j y Hc Hd eX ⟨r, h1, a, h2, h3, h4⟩
        exact ⟨r, h1, a, h2, h3, eX.at h3 h4⟩
      · rintro i x Ha Hb hi e1 e2 ⟨rfl, hx⟩ ⟨ys, hys⟩ QF QT h1 h2
        have hil : i < ls.length := by omega
        obtain ⟨b, hb, a, rfl, ha⟩ := Paired.at hp (List.getElem?_eq_getElem hil)
        rw [hx] at hb
        cases hb
        have hgd : ls.getD i [] = ls[i] := by rw [List.getD_eq_getElem?_getD, List.getElem?_eq_getElem hil]; rfl
        have hmem := List.getElem_mem hil
        rw [hgd] at h1 h2
        refine ⟨rfl, _, rfl, (by decide : 0 ≤ sizeLine), fun q hq => ?_⟩
        have eq1 := Le.new (o := .lst []) hq
        have ha1 := eq1.at (e2.at ha)
        refine ⟨.list (dS ls[i]), .list [], .lst (SqL.of ha1) dpAll_S, .lst (SqL.of (xs := []) upd_same) .nil, shaped_S (hok _ hmem), by kernel_rfl, _, rfl, ?_⟩
        rw [eqv_nil]
        cases he : (ls[i]).isEmpty with
        | true => exact iteF (h1 _ eq1 (by rw [he]; rfl))
        | false =>
          refine iteT ⟨_, rfl, a, _, rfl, .inl (SqL.of ha1), fun n hn => h2 _ _ (eq1.trans (Le.new hn)) (by rw [he]; rfl) ⟨_, List.getElem?_eq_getElem hil, n, rfl, fun z => ?_, upd_same⟩⟩
          rw [z, eq1.at hys] at hn
          cases hn
      · intro ys H1 e1 hD1 hg
        have hpw : Paired (fun r v => RdAt H1 v r) (ls.filter fun r => !r.isEmpty) ys := by
          have q := hg
          unfold Got at q
          rw [← hlen] at q
          exact got_filter (p := fun r : List Str => !r.isEmpty) (R := fun r v => RdAt H1 v r) [] (Paired.mapP q fun i y ⟨r, g1, a, g2, _, g4⟩ => ⟨r, g1, a, g2, g4⟩)
        show gName 1 _ _ _ _
        refine ⟨(by decide : 0 ≤ sizeLine), fun f hf => ?_⟩
        have ef := Le.new (o := .lst []) hf
        show gName 2 _ _ _ _
        have ffr : Fre H f := e1.fr0 hf
        have hne0 : ∀ r ∈ ls.filter (fun r => !r.isEmpty), r ≠ [] := fun r hr z => by
          have q := (List.mem_filter.mp hr).2
          rw [z] at q
          cases q
        refine ⟨fun q σ Hc => ∃ w fs ws v3 v4 v5 v6, σ = [some (.ref l), some (.ref w), some (.ref f), v3, v4, v5, v6] ∧ Le H Hc ∧ LLF Hc f w ws ∧ Hc f = some (.lst (vS fs)) ∧ MrgI ls fs ws q ∧ (∀ r ∈ ws, r ≠ []), ⟨_, D, [], _, none, none, none, none, rfl, e1.trans ef, LLF.of hf ⟨ys, hD1, hpw⟩, upd_same, MrgI.start ls, hne0⟩, ?_⟩
        rintro q σ Hc ⟨w, fs, ws, v3, v4, v5, v6, rfl, e2, LW, hfc, M, hne⟩
        obtain ⟨ws', hw, hpw⟩ := LW.ll
        have hwl := Paired.length hpw
        have hwz := M.ln
        have hsz := M.sz
        have hokw : ∀ r ∈ ws, ∀ x ∈ r, PyData.strOk x = true := fun r hr x hx => by
          obtain ⟨r2, h1, h2⟩ := M.mem r hr x hx
          exact hok r2 h1 x h2
        refine ⟨_, rfl, (by decide : 0 ≤ sizeLine), fun e he => ?_⟩
        have E5 := Le.new (o := .lst []) he
        have hw1 := E5.at hw
        have hpw1 : Paired (fun r v => RdAt (upd Hc e (.lst [])) v r) ws ws' := Paired.mapP hpw fun _ _ q => q.mono E5
        refine ⟨.list (ws.map dR), .list [], .lst (SqL.of hw1) (dpAll_R hpw1), .lst (SqL.of (xs := []) upd_same) .nil, shaped_R hokw, by kernel_rfl, _, rfl, ?_⟩
        have hfc1 := E5.at hfc
        have LW1 := LW.mono E5
        have e3 := e2.trans E5
        generalize upd Hc e (.lst []) = Hw at hw1 hpw1 hfc1 e3 LW1
        cases hws : ws with
        | nil =>
          subst hws
          refine iteF ⟨_, rfl, ?_⟩
          refine k _ _ e3 ?_
          rw [M.fin]
          exact ⟨f, rfl, hfc1⟩
        | cons r0 rt =>
          have hwn : ws ≠ [] := by rw [hws]; exact fun z => by cases z
          refine iteT ⟨fun σ' H' => ∃ q', q' < q ∧ ∃ w fs ws v3 v4 v5 v6, σ' = [some (.ref l), some (.ref w), some (.ref f), v3, v4, v5, v6] ∧ Le H H' ∧ LLF H' f w ws ∧ H' f = some (.lst (vS fs)) ∧ MrgI ls fs ws q' ∧ (∀ r ∈ ws, r ≠ []), fun σ' H' z => z, ?_⟩
          clear hws
          refine ⟨_, rfl, w, rfl, ⟨ws', SqL.of hw1⟩, ?_⟩
          refine for_itE (walk_list (K := K) (a := w) (xs := ws')) (fun i σ H' => Le Hw H' ∧ (∃ v3 v4, σ = [some (.ref l), some (.ref w), some (.ref f), v3, v4, v5, v6]) ∧ ∀ y ∈ heads (ws.take i), canBe ws y = false) ⟨Le.refl _, ⟨_, _, rfl⟩, fun y hy => by cases hy⟩ (fun i σ H' _ p => SqL.of (p.1.at hw1)) ?_ ?_
          · rintro i x σ Ha Hb hi ⟨e4, ⟨v3, v4, rfl⟩, hno⟩ ⟨rfl, hx⟩
            have hil : i < ws.length := by omega
            obtain ⟨b, hb, a, rfl, ha⟩ := Paired.at hpw1 (List.getElem?_eq_getElem hil)
            rw [hx] at hb
            cases hb
            have hmem := List.getElem_mem hil
            have hwi := List.getElem?_eq_getElem hil
            generalize hwr : ws[i] = r at ha hmem hwi
            cases r with
            | nil => exact absurd rfl (hne _ hmem)
            | cons y ys =>
              refine ⟨a, .str y, vS ys, rfl, SqL.of (e4.at ha), fun p hp => ?_⟩
              have ep := e4.trans (Le.new (o := .lst (vS ys)) hp)
              refine ⟨_, rfl, _, rfl, y, w, ws', ws, rfl, ep.at hw1, Paired.mapP hpw1 fun _ _ q => q.mono ep, by omega, fun r hr => ?_, fun H2 e5 => ⟨_, rfl, ?_⟩⟩
              · have : tot ws ≤ tot ls := by omega
                have := tot_mem hr
                omega
              rw [canBe_eq]
              have e6 := ep.trans e5
              cases hcb : canBe ws y with
              | false =>
                refine iteF ⟨e6, ⟨_, _, rfl⟩, fun z hz => ?_⟩
                rw [heads_take hwi] at hz
                rcases List.mem_append.mp hz with h1 | h1
                · exact hno z h1
                · rw [List.mem_singleton.mp h1]; exact hcb
              | true =>
                have hpk := pick_at hne hwi hno hcb
                obtain ⟨q', hq', M'⟩ := M.step hwn hpk
                have hf2 := e6.at hfc1
                have ef2 := e3.trans e6
                refine iteT ⟨_, rfl, .inl ⟨rfl, _, SqL.of hf2⟩, _, rfl, f, _, _, rfl, rfl, hf2, sz5' (by rw [vS_len]; omega), ?_⟩
                have hff : vS fs ++ [V.str y] = vS (fs ++ [y]) := by rw [vS_app]; rfl
                rw [hff]
                have e7 : Le H (upd H2 f (.lst (vS (fs ++ [y])))) := ef2.mutF ffr hf2 rfl
                have LW2 := (LW1.mono e6).upd (o := .lst (vS (fs ++ [y])))
                have hf3 : upd H2 f (.lst (vS (fs ++ [y]))) f = some (.lst (vS (fs ++ [y]))) := upd_same
                generalize upd H2 f (.lst (vS (fs ++ [y]))) = H3 at e7 LW2 hf3
                obtain ⟨r3, w3, hw3, hp3⟩ := LW2
                have hl3 := Paired.length hp3
                refine ⟨_, rfl, w, rfl, ⟨r3, SqL.of hw3⟩, fun D1 hD1 => ?_⟩
                refine lc_go (walk_list (K := K) (a := w) (xs := r3)) (fun D i v H' => ∃ r, ws[i]? = some r ∧ ∃ a, v = .ref a ∧ a ≠ D ∧ a ≠ f ∧ H' a = some (.lst (vS (r.filter fun x => !decide (x = y))))) (fun _ => true) (by omega) hD1 (fun i H x H' y => by rw [y.1]; exact Le.refl _) (fun H' e => SqL.of (e.at hw3)) ?_ ?_ ?_
                · rintro j v Hx Hd eX ⟨r, h1, a, h2, h3, h4, h5⟩
                  exact ⟨r, h1, a, h2, h3, h4, eX.at h3 h5⟩
                · rintro j x Hx Hd hj f1 f2 ⟨rfl, hx⟩ ⟨zs, hzs⟩ QF QT h1 h2
                  have hjl : j < ws.length := by omega
                  obtain ⟨b, hb, a, rfl, naf, ha3⟩ := Paired.at hp3 (List.getElem?_eq_getElem hjl)
                  rw [hx] at hb
                  cases hb
                  have hmj := List.getElem_mem hjl
                  have hzj : (ws[j]).length ≤ 100 := by have := tot_mem hmj; omega
                  refine ⟨rfl, _, rfl, a, rfl, ⟨_, SqL.of (f2.at ha3)⟩, fun D2 hD2 => ?_⟩
                  refine lc_S (ws_list (K := K) (a := a) (l := ws[j])) (fun z => !decide (z = y)) V.str (by omega) hD2 (fun H' e => SqL.of (e.at (f2.at ha3))) ?_ ?_
                  · intro z hz He g1 _ QF2 QT2 k1 k2
                    refine ⟨rfl, _, rfl, _, rfl, rfl, _, rfl, ?_⟩
                    have ed : decide (V.str z = V.str y) = decide (z = y) := by rw [Bool.eq_iff_iff, decide_eq_true_eq, decide_eq_true_eq]; exact ⟨V.str.inj, fun q => by rw [q]⟩
                    rw [ed]
                    cases hq : (!decide (z = y)) with
                    | true => exact iteT ⟨_, rfl, k2 He (Le.refl _) hq⟩
                    | false => exact iteF (k1 He (Le.refl _) hq)
                  · intro He g1 hD2e
                    refine h2 _ He g1 rfl ⟨_, List.getElem?_eq_getElem hjl, D2, rfl, fun z => ?_, fun z => ?_, hD2e⟩
                    · rw [z, hzs] at hD2; cases hD2
                    · rw [z, f2.at hf3] at hD2; cases hD2
                · intro y1 H4 f1 hD14 hg1
                  have hp4 : Paired (fun r v => ∃ a, v = .ref a ∧ a ≠ f ∧ H4 a = some (.lst (vS r))) (ws.map fun r => r.filter fun x => !decide (x = y)) y1 := by
                    have q := hg1
                    unfold Got at q
                    have q2 := got_all (l := ws) (R := fun r v => ∃ a, v = V.ref a ∧ a ≠ f ∧ H4 a = some (.lst (vS (r.filter fun x => !decide (x = y))))) (fun _ => rfl) hl3.symm (Paired.mapP q fun i y ⟨r, g1, a, g2, _, g3, g4⟩ => ⟨r, g1, a, g2, g3, g4⟩)
                    exact Paired.mapL q2 fun _ _ h => h
                  have hm4 : ∀ r ∈ (ws.map fun r => r.filter fun x => !decide (x = y)), r.length ≤ 100 ∧ ∀ x ∈ r, PyData.strOk x = true := fun r hr => by
                    obtain ⟨r2, h1, rfl⟩ := List.mem_map.mp hr
                    have h2 := tot_mem h1
                    have h3 := List.length_filter_le (fun x => !decide (x = y)) r2
                    exact ⟨by omega, fun x hx => hokw r2 h1 x (List.mem_filter.mp hx).1⟩
                  have hl4 := Paired.length hp4
                  have hcl : clean y ws = (ws.map fun r => r.filter fun x => !decide (x = y)).filter fun r => !r.isEmpty := rfl
                  have hz4 : (ws.map fun r => r.filter fun x => !decide (x = y)).length ≤ 10 := by rw [List.length_map]; omega
                  generalize (ws.map fun r => r.filter fun x => !decide (x = y)) = wm at hp4 hm4 hl4 hcl hz4
                  have hf4 := f1.at hf3
                  show gName 1 _ _ _ _
                  refine ⟨_, rfl, D1, rfl, ⟨y1, SqL.of hD14⟩, fun D3 hD3 => ?_⟩
                  refine lc_go (walk_list (K := K) (a := D1) (xs := y1)) (fun D i v H' => ∃ r, wm[i]? = some r ∧ ∃ a, v = .ref a ∧ a ≠ D ∧ a ≠ f ∧ H' a = some (.lst (vS r))) (fun i => !(wm.getD i []).isEmpty) (by omega) hD3 (fun i H x H' y => by rw [y.1]; exact Le.refl _) (fun H' e => SqL.of (e.at hD14)) ?_ ?_ ?_
                  · rintro j v Hx Hd eX ⟨r, h1, a, h2, h3, h4, h5⟩
                    exact ⟨r, h1, a, h2, h3, h4, eX.at h3 h5⟩
                  · rintro j x Hx Hd hj g1 g2 ⟨rfl, hx⟩ ⟨zs, hzs⟩ QF QT h1 h2
                    have hjl : j < wm.length := by omega
                    obtain ⟨b, hb, a, rfl, naf, ha4⟩ := Paired.at hp4 (List.getElem?_eq_getElem hjl)
                    rw [hx] at hb
                    cases hb
                    have hgd : wm.getD j [] = wm[j] := by rw [List.getD_eq_getElem?_getD, List.getElem?_eq_getElem hjl]; rfl
                    have hmj := List.getElem_mem hjl
                    rw [hgd] at h1 h2
                    refine ⟨rfl, _, rfl, (by decide : 0 ≤ sizeLine), fun q hq => ?_⟩
                    have eq1 := Le.new (o := .lst []) hq
                    have ha5 := eq1.at (g2.at ha4)
                    refine ⟨.list (dS wm[j]), .list [], .lst (SqL.of ha5) dpAll_S, .lst (SqL.of (xs := []) upd_same) .nil, shaped_S (hm4 _ hmj).2, by kernel_rfl, _, rfl, ?_⟩
                    rw [eqv_nil]
                    cases he : (wm[j]).isEmpty with
                    | true => exact iteF (h1 _ eq1 (by rw [he]; rfl))
                    | false => exact iteT ⟨_, rfl, h2 _ _ eq1 (by rw [he]; rfl) ⟨_, List.getElem?_eq_getElem hjl, a, rfl, fun z => (by rw [z] at ha4; rw [hD3] at ha4; cases ha4), naf, ha5⟩⟩
                  · intro y2 H5 g1 hD35 hg2
                    have hp5 : Paired (fun r v => ∃ a, v = .ref a ∧ a ≠ f ∧ H5 a = some (.lst (vS r))) (clean y ws) y2 := by
                      have q := hg2
                      unfold Got at q
                      rw [← hl4] at q
                      rw [hcl]
                      exact got_filter (p := fun r : List Str => !r.isEmpty) (R := fun r v => ∃ a, v = V.ref a ∧ a ≠ f ∧ H5 a = some (.lst (vS r))) [] (Paired.mapP q fun i y ⟨r, g1, a, g2, _, g3, g4⟩ => ⟨r, g1, a, g2, g3, g4⟩)
                    show gName 1 _ _ _ _
                    refine ⟨q', hq', D3, fs ++ [y], clean y ws, _, _, _, _, rfl, (e7.trans f1).trans g1, ⟨y2, fun z => ?_, hD35, hp5⟩, g1.at hf4, M', fun r hr z => ?_⟩
                    · rw [z, hf4] at hD3; cases hD3
                    · have q := (List.mem_filter.mp hr).2
                      rw [z] at q
                      cases q
          · rintro σ H2 ⟨e4, ⟨v3, v4, rfl⟩, hno⟩
            rw [← hwl, List.take_length] at hno
            refine k _ _ (e3.trans e4) ?_
            rw [M.stuck hwn (pick_no hno)]
            rfl
  exact ⟨⟨_, fd, G, T.g_merged, F.kp, F.bindsN (ps := ["lists"]) fun _ _ _ _ _ _ us hl => match us, hl with | [_], _ => rfl⟩⟩

end
end Sw
set_option linter.all false
set_option maxRecDepth 100000
set_option maxHeartbeats 4000000
/-! SwF17: a world is made; an entry; a class is put in. Terms printed by gen_term.py. -/
namespace Sw
open PySem PySem.Spec PyProof.Rows L2 LamX
section
variable {P : Program} {w : World} {K : PySem.W.Frag} {mg : Str → Option Value} {base : Heap}


def emptyT : Tb := ⟨[], fun _ => ⟨[], false, [], none, false, []⟩, fun _ => []⟩
def spWInit : Sp := fun vs H Q _ => ∃ x dx H0, vs = [.ref x] ∧ H x = some (.ins cWorld dx []) ∧ Le H0 H ∧ Fre H0 x ∧ ∀ H', Le H0 H' → WldF H0 H' x emptyT → Q .non H'
def spEInit : Sp := fun vs H Q _ => ∃ x dx H0 n bt own ml hv ps ol, ∃ c : Cl, vs = [.ref x, .str n, .ref bt, .bl own, .ref ml, hv, .bl ps, .ref ol] ∧ H x = some (.ins cEntry dx []) ∧ Le H0 H ∧ Fre H0 x ∧ H bt = some (.tup (vS c.par)) ∧ own = c.own ∧ RegsAt H ml c.marks ∧ (c.marks.map (·.1)).Nodup ∧ c.marks.length ≤ 20 ∧ OHook H hv c.hook ∧ ps = c.passed ∧ H ol = some (.lst (vS c.line)) ∧
  ∀ ln mk H', Le H0 H' → Fre H0 ln → Fre H0 mk → EntL H' x n c ln mk → Q .non H'


theorem regs_addr {H : Hp} : ∀ {ms : List (Str × Str)} {rs : List V}, Paired (fun p v => PairAt H v p) ms rs → ∃ ps : List Addr, rs = ps.map V.ref ∧ Paired (fun a kv => H a = some (.tup [kV kv.1, kv.2])) ps (kvM ms)
  | _, _, .nil => ⟨[], rfl, .nil⟩
  | p :: ms, _, .cons ⟨a, e, h⟩ t => by
    subst e
    obtain ⟨ps, h1, h2⟩ := regs_addr t
    exact ⟨a :: ps, by rw [h1]; rfl, .cons h h2⟩
theorem putK_new {kvs : List (Key × V)} {k : Key} {v : V} (h : k ∉ kvs.map (·.1)) : putK kvs k v = kvs ++ [(k, v)] := by
  have e : (kvs.any fun kv => decide (kv.1 = k)) = false := by
    rw [List.any_eq_false]
    intro x hx z
    exact h (List.mem_map.mpr ⟨x, hx, of_decide_eq_true z⟩)
  unfold putK
  rw [e, if_neg Bool.false_ne_true]
theorem merge_new : ∀ (kvs acc : List (Key × V)), (acc ++ kvs).map (·.1) |>.Nodup → mergeK acc kvs = acc ++ kvs
  | [], acc, _ => by rw [List.append_nil]; rfl
  | kv :: kvs, acc, h => by
    show mergeK (putK acc kv.1 kv.2) kvs = _
    have hk : kv.1 ∉ acc.map (·.1) := fun z => by
      rw [List.map_append, List.map_cons, List.nodup_append] at h
      exact h.2.2 _ z _ List.mem_cons_self rfl
    rw [putK_new hk, merge_new kvs _ (by rw [List.append_assoc]; exact h), List.append_assoc]
    rfl
theorem merge_kvM {ms : List (Str × Str)} (h : (ms.map (·.1)).Nodup) : mergeK [] (kvM ms) = kvM ms := by
  refine merge_new (kvM ms) [] ?_
  rw [List.nil_append]
  unfold kvM
  rw [List.map_map]
  have e : ms.map ((fun x : Key × V => x.1) ∘ fun p => (Sum.inr p.1, V.str p.2)) = (ms.map (·.1)).map (Sum.inr : Str → Key) := by rw [List.map_map]; rfl
  rw [e]
  unfold List.Nodup at h ⊢
  rw [List.pairwise_map]
  exact h.imp fun h2 z => h2 (Sum.inr.inj z)
theorem fsE_full {n : Str} {tp : Addr} {own : Bool} {mk : Addr} {hv : V} {ps : Bool} {ln : Addr} : putF "line" (.ref ln) (putF "passed_on" (.bl ps) (putF "own_hook" hv (putF "given_marks" (.ref mk) (putF "own_sworn" (.bl own) (putF "parents" (.ref tp) (putF "label" (.str n) [])))))) = fsE n tp own mk hv ps ln := by kernel_rfl
theorem fsW_full {t ca vi th ch : Addr} : putF "choice_lists" (.ref ch) (putF "things" (.ref th) (putF "visits" (.ref vi) (putF "cache" (.ref ca) (putF "table" (.ref t) [])))) = fsW t ca vi th ch := by kernel_rfl
theorem keep_x {H : Hp} {x b : Addr} {o o0 o1 : HO} (hx : H x = some o0) (hb : H b = some o) (n : o ≠ o0) : upd H x o1 b = some o := by
  rw [upd_ne (fun z => by rw [z, hx] at hb; exact n (Option.some.inj hb).symm)]
  exact hb
theorem pl0 : ([] : List (Str × V)).length < 1 := (by decide : 0 < 1)
theorem lt1000 {n k : Nat} (h : n < k) (hk : k ≤ 1000) : n < 1000 := Nat.lt_of_lt_of_le h hk

theorem sc_Entry_init : FnScope ["self", "name", "bases", "own_sworn", "marks", "hook", "passed", "order"] ["self", "name", "bases", "own_sworn", "marks", "hook", "passed", "order"] (defScope s_Entry_init) := ⟨rfl, rfl, rfl, by decide +kernel, rfl, by decide +kernel, by decide +kernel⟩
theorem ok_Entry_init (T : Tx K mg)  : CalC P w K mg base "Entry" cEntry 1 ["self", "name", "bases", "own_sworn", "marks", "hook", "passed", "order"] spEInit := by
  obtain ⟨fd, F⟩ := T.fn _ fi_Entry_init
  have G : FnOk P w K mg base CX0 1 d_Entry_init.f fd ["self", "name", "bases", "own_sworn", "marks", "hook", "passed", "order"] spEInit := by
    refine F.ok sc_Entry_init (fun vs H Q E h => ?_) (fun cdv A outer s H vs Q E hr h => ⟨_, PSs.nox (X := cxOf CX0 P w K mg base _ _ _ _ cdv A outer s H E) ((pss_cons (wsfld K (pv 0) (pv 1) rfl)
    (pss_cons (wsfld K (pv 0) (pe_callTy (wtupof K) (by rfl) T.f_tuple bb_tuple (pa_cons (pv 2) pa_nil)) rfl)
    (pss_cons (wsfld K (pv 0) (pv 3) rfl)
    (pss_cons (wsfld K (pv 0) (pe_callTy (call_dictP rfl) (by rfl) T.f_dict bb_dict (pa_cons (pv 4) pa_nil)) rfl)
    (pss_cons (wsfld K (pv 0) (pv 5) rfl)
    (pss_cons (wsfld K (pv 0) (pv 6) rfl)
    (pss_one (wsfld K (pv 0) (pe_callTy (wlistof K) (by rfl) T.f_list bb_list (pa_cons (pv 7) pa_nil)) rfl))))))))), ?_⟩)
    · obtain ⟨_, _, _, _, _, _, _, _, _, _, _, rfl, _⟩ := h
      rfl
    · obtain ⟨x, dx, H0, n, bt, own, ml, hv, ps, ol, c, rfl, hx, e, fx, hb, rfl, ⟨rs, hml, hmp⟩, hmd, hmz, hh, rfl, hol, k⟩ := h
      obtain ⟨as, hrs, has⟩ := regs_addr hmp
      subst hrs
      have c2 := T.cl_Entry
      refine ⟨_, rfl, _, rfl, x, cEntry, dx, _, rfl, hx, c2, T.n_Entry_label, lt1000 pl0 (by decide), ?_⟩
      have e1 := e.mutF (o := .ins cEntry dx (putF "label" (.str n) [])) fx hx rfl
      have g1 : ∀ {b : Addr} {o : HO}, H b = some o → (∀ fs, o ≠ .ins cEntry dx fs) → upd H x (.ins cEntry dx (putF "label" (.str n) [])) b = some o := fun hb n => by
        rw [upd_ne (fun z => by rw [z, hx] at hb; exact n _ (Option.some.inj hb).symm)]
        exact hb
      have hb1 := g1 hb (fun fs z => by cases z)
      refine ⟨_, rfl, bt, _, rfl, .inr ⟨SqT.of hb1, _, rfl, x, cEntry, dx, _, rfl, upd_same, c2, T.n_Entry_parents, lt1000 (putF_lt pl0) (by decide), ?_⟩⟩
      have e2 := e1.mutF (o := .ins cEntry dx (putF "parents" (.ref bt) (putF "label" (.str n) []))) fx upd_same rfl
      refine ⟨_, rfl, _, rfl, x, cEntry, dx, _, rfl, upd_same, c2, T.n_Entry_own_sworn, lt1000 (putF_lt (putF_lt pl0)) (by decide), ?_⟩
      rw [upd_upd, upd_upd]
      have e3 := e.mutF (o := .ins cEntry dx (putF "own_sworn" (.bl c.own) (putF "parents" (.ref bt) (putF "label" (.str n) [])))) fx hx rfl
      have g3 : ∀ {b : Addr} {o : HO}, H b = some o → (∀ fs, o ≠ .ins cEntry dx fs) → (upd H x (.ins cEntry dx (putF "own_sworn" (.bl c.own) (putF "parents" (.ref bt) (putF "label" (.str n) []))))) b = some o := fun hb n => by
        rw [upd_ne (fun z => by rw [z, hx] at hb; exact n _ (Option.some.inj hb).symm)]
        exact hb
      refine ⟨_, rfl, ml, as, kvM c.marks, rfl, SqL.of (g3 hml (fun fs z => by cases z)), Paired.mapP has fun a kv h => SqT.of (g3 h (fun fs z => by cases z)), fun mk hmk => ⟨_, rfl, x, cEntry, dx, _, rfl, (Le.new hmk).at upd_same, c2, T.n_Entry_given_marks, lt1000 (putF_lt (putF_lt (putF_lt pl0))) (by decide), ?_⟩⟩
      rw [merge_kvM hmd]
      have e4 := e3.trans (Le.new (o := .dK (kvM c.marks)) hmk)
      have fmk : Fre H0 mk := e3.fr0 hmk
      have xmk : mk ≠ x := fun z => by rw [z, upd_same] at hmk; cases hmk
      refine ⟨_, rfl, _, rfl, x, cEntry, dx, _, rfl, upd_same, c2, T.n_Entry_own_hook, lt1000 (putF_lt (putF_lt (putF_lt (putF_lt pl0)))) (by decide), ?_⟩
      refine ⟨_, rfl, _, rfl, x, cEntry, dx, _, rfl, upd_same, c2, T.n_Entry_passed_on, lt1000 (putF_lt (putF_lt (putF_lt (putF_lt (putF_lt pl0))))) (by decide), ?_⟩
      rw [upd_upd, upd_upd]
      have x4 : (upd (upd H x (.ins cEntry dx (putF "own_sworn" (.bl c.own) (putF "parents" (.ref bt) (putF "label" (.str n) []))))) mk (.dK (kvM c.marks))) x = some (.ins cEntry dx (putF "own_sworn" (.bl c.own) (putF "parents" (.ref bt) (putF "label" (.str n) [])))) := (Le.new hmk).at upd_same
      have e6 := e4.mutF (o := .ins cEntry dx (putF "passed_on" (.bl c.passed) (putF "own_hook" hv (putF "given_marks" (.ref mk) (putF "own_sworn" (.bl c.own) (putF "parents" (.ref bt) (putF "label" (.str n) []))))))) fx x4 rfl
      have g6 : ∀ {b : Addr} {o : HO}, H b = some o → plainO o = true → (∀ fs, o ≠ .ins cEntry dx fs) → (upd (upd (upd H x (.ins cEntry dx (putF "own_sworn" (.bl c.own) (putF "parents" (.ref bt) (putF "label" (.str n) []))))) mk (.dK (kvM c.marks))) x (.ins cEntry dx (putF "passed_on" (.bl c.passed) (putF "own_hook" hv (putF "given_marks" (.ref mk) (putF "own_sworn" (.bl c.own) (putF "parents" (.ref bt) (putF "label" (.str n) [])))))))) b = some o := fun {b o} hb pl n => by
        have nx : b ≠ x := fun z => by rw [z, hx] at hb; exact n _ (Option.some.inj hb).symm
        rw [upd_ne nx]
        exact (Le.new hmk).at (g3 hb n) pl
      refine ⟨_, rfl, ol, _, rfl, .inl (SqL.of (g6 hol rfl (fun fs z => by cases z))), fun ln hln => ⟨_, rfl, x, cEntry, dx, _, rfl, (Le.new hln).at upd_same, c2, T.n_Entry_line, lt1000 (putF_lt (putF_lt (putF_lt (putF_lt (putF_lt (putF_lt pl0)))))) (by decide), ?_⟩⟩
      rw [fsE_full]
      have e7 := e6.trans (Le.new (o := .lst (vS c.line)) hln)
      have e8 := e7.mutF (o := .ins cEntry dx (fsE n bt c.own mk hv c.passed ln)) fx ((Le.new hln).at upd_same) rfl
      have xln : ln ≠ x := fun z => by rw [z, upd_same] at hln; cases hln
      have g8 : ∀ {b : Addr} {o : HO}, H b = some o → plainO o = true → (∀ fs, o ≠ .ins cEntry dx fs) → (upd (upd (upd (upd (upd H x (.ins cEntry dx (putF "own_sworn" (.bl c.own) (putF "parents" (.ref bt) (putF "label" (.str n) []))))) mk (.dK (kvM c.marks))) x (.ins cEntry dx (putF "passed_on" (.bl c.passed) (putF "own_hook" hv (putF "given_marks" (.ref mk) (putF "own_sworn" (.bl c.own) (putF "parents" (.ref bt) (putF "label" (.str n) [])))))))) ln (.lst (vS c.line))) x (.ins cEntry dx (fsE n bt c.own mk hv c.passed ln))) b = some o := fun {b o} hb pl n => by
        have nx : b ≠ x := fun z => by rw [z, hx] at hb; exact n _ (Option.some.inj hb).symm
        rw [upd_ne nx]
        exact (Le.new hln).at (g6 hb pl n) pl
      refine k ln mk _ e8 (e6.fr0 hln) fmk ⟨dx, bt, hv, upd_same, g8 hb rfl (fun fs z => by cases z), ?_, ?_, ?_⟩
      · rw [upd_ne xmk, upd_ne (fun z => by rw [← z, upd_ne xmk, upd_same] at hln; cases hln), upd_ne xmk, upd_same]
      · cases hc : c.hook with
        | none => rw [hc] at hh; exact hh
        | some hk =>
          rw [hc] at hh
          obtain ⟨a, vs, q1, q2, q3⟩ := hh
          exact ⟨a, vs, q1, g8 q2 rfl (fun fs z => by cases z), Paired.mapP q3 fun v cc ⟨a, m, w1, w2, w3⟩ => ⟨a, m, w1, g8 w2 rfl (fun fs z => by cases z), g8 w3 rfl (fun fs z => by cases z)⟩⟩
      · rw [upd_ne xln, upd_same]
  exact ⟨⟨_, fd, G, T.mk_Entry, T.c_Entry, F.bindsN (ps := ["self", "name", "bases", "own_sworn", "marks", "hook", "passed", "order"]) fun _ _ _ _ _ _ us hl => match us, hl with | [_, _, _, _, _, _, _, _], _ => rfl⟩⟩

theorem sc_World_init : FnScope ["self"] ["self"] (defScope s_World_init) := ⟨rfl, rfl, rfl, by decide +kernel, rfl, by decide +kernel, by decide +kernel⟩
theorem ok_World_init (T : Tx K mg) (c_Table : CalC P w K mg base "Table" cTable 1 ["self"] spTInit) (c_Cache : CalC P w K mg base "Cache" cCache 1 ["self"] spCInit) : CalC P w K mg base "World" cWorld 3 ["self"] spWInit := by
  obtain ⟨fd, F⟩ := T.fn _ fi_World_init
  have G : FnOk P w K mg base CX0 3 d_World_init.f fd ["self"] spWInit := by
    refine F.ok sc_World_init (fun vs H Q E h => ?_) (fun cdv A outer s H vs Q E hr h => ⟨_, PSs.nox (X := cxOf CX0 P w K mg base _ _ _ _ cdv A outer s H E) ((pss_cons (wsfld K (pv 0) (pn0 c_Table hr rfl) rfl)
    (pss_cons (wsfld K (pv 0) (pn0 c_Cache hr rfl) rfl)
    (pss_cons (wsfld K (pv 0) (pe_lst pa_nil) rfl)
    (pss_cons (wsfld K (pv 0) (pe_lst pa_nil) rfl)
    (pss_one (wsfld K (pv 0) (pe_lst pa_nil) rfl))))))), ?_⟩)
    · obtain ⟨_, _, _, rfl, _⟩ := h
      rfl
    · obtain ⟨x, dx, H0, rfl, hx, e, fx, k⟩ := h
      have c2 := T.cl_World
      refine fun t td ht htd hne => ⟨t, td, H, rfl, upd_same, le_make ht htd hne, .of ht, fun r nb l H1 e1 fr fnb fl d1 d2 d3 ht1 hr1 hnb1 hl1 => ⟨rfl, _, rfl, x, cWorld, dx, _, rfl, e1.at hx, c2, T.n_World_table, lt1000 pl0 (by decide), ?_⟩⟩
      have E1 := e.trans e1
      have x1 := e1.at hx
      have Ea := E1.mutF (o := .ins cWorld dx (putF "table" (.ref t) [])) fx x1 rfl
      have ga : ∀ {b : Addr} {o : HO}, H1 b = some o → (∀ fs, o ≠ .ins cWorld dx fs) → (upd H1 x (.ins cWorld dx (putF "table" (.ref t) []))) b = some o := fun hb n => by
        rw [upd_ne (fun z => by rw [z, x1] at hb; exact n _ (Option.some.inj hb).symm)]
        exact hb
      refine fun ca cd hca hcd hnec => ⟨ca, cd, _, rfl, upd_same, le_make hca hcd hnec, .of hca, fun kp Hb eb fkp hca1 hkp1 => ⟨rfl, _, rfl, x, cWorld, dx, _, rfl, eb.at upd_same, c2, T.n_World_cache, lt1000 (putF_lt pl0) (by decide), ?_⟩⟩
      have xb := eb.at (o := .ins cWorld dx (putF "table" (.ref t) [])) upd_same
      have fca : Fre H0 ca := Ea.fr0 hca
      have gb := fun {b : Addr} {o : HO} (hb : Hb b = some o) (n : ∀ fs, o ≠ .ins cWorld dx fs) => keep_x (o1 := .ins cWorld dx (putF "cache" (.ref ca) (putF "table" (.ref t) []))) xb hb (n _)
      have Eb := (Ea.trans eb).mutF (o := .ins cWorld dx (putF "cache" (.ref ca) (putF "table" (.ref t) []))) fx xb rfl
      refine ⟨(by decide : 0 ≤ sizeLine), fun vi hvi => ⟨_, rfl, x, cWorld, dx, _, rfl, (Le.new hvi).at upd_same, c2, T.n_World_visits, lt1000 (putF_lt (putF_lt pl0)) (by decide), ?_⟩⟩
      have Ec := (Eb.trans (Le.new (o := .lst []) hvi)).mutF (o := .ins cWorld dx (putF "visits" (.ref vi) (putF "cache" (.ref ca) (putF "table" (.ref t) [])))) fx ((Le.new hvi).at upd_same) rfl
      refine ⟨(by decide : 0 ≤ sizeLine), fun th hth => ⟨_, rfl, x, cWorld, dx, _, rfl, (Le.new hth).at upd_same, c2, T.n_World_things, lt1000 (putF_lt (putF_lt (putF_lt pl0))) (by decide), ?_⟩⟩
      have Ed := (Ec.trans (Le.new (o := .lst []) hth)).mutF (o := .ins cWorld dx (putF "things" (.ref th) (putF "visits" (.ref vi) (putF "cache" (.ref ca) (putF "table" (.ref t) []))))) fx ((Le.new hth).at upd_same) rfl
      refine ⟨(by decide : 0 ≤ sizeLine), fun ch hch => ⟨_, rfl, x, cWorld, dx, _, rfl, (Le.new hch).at upd_same, c2, T.n_World_choice_lists, lt1000 (putF_lt (putF_lt (putF_lt (putF_lt pl0)))) (by decide), ?_⟩⟩
      rw [fsW_full]
      have Ee := (Ed.trans (Le.new (o := .lst []) hch)).mutF (o := .ins cWorld dx (fsW t ca vi th ch)) fx ((Le.new hch).at upd_same) rfl
      have G : ∀ {b : Addr} {o : HO}, Hb b = some o → plainO o = true → (∀ fs, o ≠ .ins cWorld dx fs) → _ = some o := fun {b o} hb pl n =>
        keep_x (o1 := .ins cWorld dx (fsW t ca vi th ch)) ((Le.new hch).at upd_same) ((Le.new (o := .lst []) hch).at (keep_x (o1 := .ins cWorld dx (putF "things" (.ref th) (putF "visits" (.ref vi) (putF "cache" (.ref ca) (putF "table" (.ref t) []))))) ((Le.new hth).at upd_same) ((Le.new (o := .lst []) hth).at
          (keep_x (o1 := .ins cWorld dx (putF "visits" (.ref vi) (putF "cache" (.ref ca) (putF "table" (.ref t) [])))) ((Le.new hvi).at upd_same) ((Le.new (o := .lst []) hvi).at (gb hb n) pl) (n _)) pl) (n _)) pl) (n _)
      have xch : ch ≠ x := fun z => by rw [z, upd_same] at hch; cases hch
      refine k _ Ee ⟨t, td, r, nb, l, 0, fun _ => 0, fun _ => 0, fun _ => 0, fun _ => 0, ⟨dx, ca, vi, th, ch, cd, kp, upd_same, G hca1 rfl (fun fs z => by cases z), G hkp1 rfl (fun fs z => by cases z), ?_, fca, (fkp.ne (ga hr1 (fun fs z => by cases z))).symm, (fkp.ne (ga hnb1 (fun fs z => by cases z))).symm, (fkp.ne (ga hl1 (fun fs z => by cases z))).symm, fun n hn => by cases hn⟩, ?_⟩
      · rw [upd_ne xch, upd_same]
      · refine ⟨G (eb.at (ga ht1 (fun fs z => by cases z))) rfl (fun fs z => by cases z), G (eb.at (ga hr1 (fun fs z => by cases z))) rfl (fun fs z => by cases z), fun n hn => (by cases hn), ⟨[], G (eb.at (ga hnb1 (fun fs z => by cases z))) rfl (fun fs z => by cases z), Nat.zero_le _⟩, G (eb.at (ga hl1 (fun fs z => by cases z))) rfl (fun fs z => by cases z), fun n hn => (by cases hn), e.fre (.of ht), e.fre fr, e.fre fnb, e.fre fl, fun n hn => (by cases hn), fun n hn => (by cases hn), fun n hn => (by cases hn), d1, d2, d3, fun n hn => (by cases hn)⟩
  exact ⟨⟨_, fd, G, T.mk_World, T.c_World, F.bindsN (ps := ["self"]) fun _ _ _ _ _ _ us hl => match us, hl with | [_], _ => rfl⟩⟩

end
end Sw
set_option linter.all false
set_option maxRecDepth 100000
set_option maxHeartbeats 4000000
/-! SwF27: a new class's entry. Terms printed by gen_term.py. -/
namespace Sw
open PySem PySem.Spec PyProof.Rows L2 LamX
section
variable {P : Program} {w : World} {K : PySem.W.Frag} {mg : Str → Option Value} {base : Heap}


/-- what a new class must be -/
structure NewCl (U : Tb) (n : Str) (c : Cl) : Prop where
  nm : n ∈ Tb.NAMES
  new : n ∉ U.names
  pin : ∀ p ∈ c.par, p ∈ U.names
  pnd : c.par.Nodup
  psz : c.par.length ≤ 3
  mks : ∀ p ∈ c.marks, p.1 ∈ Tb.METHS ∧ p.2 ∈ Tb.MRKS
  mkd : (c.marks.map (·.1)).Nodup
  hk : ∀ h, c.hook = some h → HkOk h ∧ (c.own || c.par.any U.sworn) = true
  ln : ∃ r, c.line = n :: r ∧ mrg (c.par.map (fun p => (U.cl p).line) ++ [c.par]) = some r
theorem NewCl.msz {U : Tb} {n : Str} {c : Cl} (h : NewCl U n c) : c.marks.length ≤ 5 := by
  have q := length_le_of_nodup_of_subset _ Tb.METHS h.mkd fun x hx => by
    obtain ⟨p, hp, rfl⟩ := List.mem_map.mp hx
    exact (h.mks p hp).1
  rw [List.length_map] at q
  exact q
def spNewEntry : Sp := fun vs H Q _ => ∃ t U n bt c ml hv, vs = [.ref t, .str n, .ref bt, .bl c.own, .ref ml, hv, .bl c.passed] ∧ TabAt H t U ∧ U.Ok ∧ NewCl U n c ∧ H bt = some (.tup (vS c.par)) ∧ RegsAt H ml c.marks ∧ OHook H hv c.hook ∧
  ∀ e ln mk H', Le H H' → Fre H e → Fre H ln → Fre H mk → EntL H' e n c ln mk → Q (.ref e) H'
theorem kit_lt : PySem.W.kitAny K (.type "list") [.type "list", .type "tuple"] = some true := by
  unfold PySem.W.kitAny
  rw [show PySem.W.kitOne K (.type "list") (.type "list") = some true from kit_ty (by kernel_rfl)]
theorem or_any {own : Bool} {H0 : Hp} {R : Hp → Prop} {A P : Prop} (h1 : (∀ H', Le H0 H' → R H') → own = true → A) (h2 : (∀ H', Le H0 H' → R H') → own = false → P) (hR : ∀ H', Le H0 H' → R H') : if own = true then A else P := by
  cases own with
  | true => exact h1 hR rfl
  | false => exact h2 hR rfl
theorem tot_map (f : Str → List Str) (k : Nat) : ∀ l : List Str, (∀ p ∈ l, (f p).length ≤ k) → tot (l.map f) ≤ l.length * k
  | [], _ => Nat.zero_le _
  | a :: l, h => by
    rw [List.map_cons, tot_cons, List.length_cons, Nat.succ_mul]
    have h1 := h a List.mem_cons_self
    have h2 := tot_map f k l fun p hp => h p (List.mem_cons_of_mem _ hp)
    omega
theorem tot_app (a b : List (List Str)) : tot (a ++ b) = tot a + tot b := by unfold tot; rw [List.map_append, List.sum_append]

theorem sc_new_entry : FnScope ["table", "name", "bases", "sworn", "marks", "hook", "passed", "behind", "base"] ["table", "name", "bases", "sworn", "marks", "hook", "passed"] (defScope s_new_entry) := ⟨rfl, rfl, rfl, by decide +kernel, rfl, by decide +kernel, by decide +kernel⟩
theorem ok_new_entry (T : Tx K mg) (c_is_name : Cal P w K mg base "is_name" 1 ["value"] spIsName) (c_Table_has : CalM P w K mg base cTable "has" 1 ["self", "name"] spTHas) (c_look_bases : Cal P w K mg base "look_bases" 2 ["table", "bases"] spLookBases) (c_look_marks : Cal P w K mg base "look_marks" 2 ["marks"] spLookMarks) (c_look_hook : Cal P w K mg base "look_hook" 4 ["hook", "is_allowed"] spLookHook) (c_is_sworn : Cal P w K mg base "is_sworn" 1 ["table", "name"] spSworn) (c_merged : Cal P w K mg base "merged" 2 ["lists"] spMerged) (c_Entry : CalC P w K mg base "Entry" cEntry 1 ["self", "name", "bases", "own_sworn", "marks", "hook", "passed", "order"] spEInit) : Cal P w K mg base "new_entry" 6 ["table", "name", "bases", "sworn", "marks", "hook", "passed"] spNewEntry := by
  obtain ⟨fd, F⟩ := T.fn _ fi_new_entry
  have G : FnOk P w K mg base CX0 6 d_new_entry.f fd ["table", "name", "bases", "sworn", "marks", "hook", "passed"] spNewEntry := by
    refine F.ok sc_new_entry (fun vs H Q E h => ?_) (fun cdv A outer s H vs Q E hr h => ⟨_, PSs.nox (X := cxOf CX0 P w K mg base _ _ _ _ cdv A outer s H E) ((pss_cons (ps_if (pt_not (pt_val (pc c_is_name (hr.mono (by decide : 1 ≤ _)) rfl (pa_cons (pv 1) pa_nil)))) (pss_one ps_never) pss_nil)
    (pss_cons (ps_if (pt_val (pm c_Table_has (hr.mono (by decide : 1 ≤ _)) (pv 0) (pa_cons (pv 1) pa_nil))) (pss_one ps_never) pss_nil)
    (pss_cons (ps_expr (pc c_look_bases (hr.mono (by decide : 2 ≤ _)) rfl (pa_cons (pv 0) (pa_cons (pv 2) pa_nil))))
    (pss_cons (ps_if (pt_not (pt_val (pe_callB (wisiT K) (by rfl) T.f_isinstance bb_isinstance (pa_cons (pv 4) (pa_cons (pe_tup (pa_cons (pe_bltn (v := .ty "list") (by rfl) T.f_list bb_list rfl) (pa_cons (pe_bltn (v := .ty "tuple") (by rfl) T.f_tuple bb_tuple rfl) pa_nil))) pa_nil))))) (pss_one ps_never) pss_nil)
    (pss_cons (ps_expr (pc c_look_marks (hr.mono (by decide : 2 ≤ _)) rfl (pa_cons (pv 4) pa_nil)))
    (pss_cons (ps_expr (pc c_look_hook (hr.mono (by decide : 4 ≤ _)) rfl (pa_cons (pv 5) (pa_cons (pe_or (pv 3) (pe_one (pe_callB (wany K rfl) (by rfl) T.f_any bb_any (pa_cons (pe_lc (own := [("base", 8)]) rfl sc_new_entry.nd (witup K (pv 2)) (blkOk_by (N := ["table", "name", "bases", "sworn", "marks", "hook", "passed", "behind", "base"]) (sc := defScope s_new_entry) (own := [("base", 8)]) (by decide +kernel)) (fun _ _ _ _ _ => (pg_name (i := 8) sc_new_entry.nd rfl (Or.inl rfl))) (fun _ _ _ _ _ => pts_nil) (fun _ _ _ _ _ => (pc c_is_sworn (hr.mono (by decide : 1 ≤ _)) rfl (pa_cons (wfld K (pv 0) rfl) (pa_cons (pv 8) pa_nil))))) pa_nil)))) pa_nil))))
    (pss_cons (ps_set (i := 7) sc_new_entry.nd rfl (Or.inl rfl) (pc c_merged (hr.mono (by decide : 2 ≤ _)) rfl (pa_cons (pe_op op_cat (pe_lc (own := [("base", 8)]) rfl sc_new_entry.nd (witup K (pv 2)) (blkOk_by (N := ["table", "name", "bases", "sworn", "marks", "hook", "passed", "behind", "base"]) (sc := defScope s_new_entry) (own := [("base", 8)]) (by decide +kernel)) (fun _ _ _ _ _ => (pg_name (i := 8) sc_new_entry.nd rfl (Or.inl rfl))) (fun _ _ _ _ _ => pts_nil) (fun _ _ _ _ _ => (wfld K (pe_dget (hu_of hr) (wfld K (pv 0) rfl) (pv 8) (fun _ _ => rfl)) rfl))) (pe_lst (pa_cons (pe_callTy (wlistof K) (by rfl) T.f_list bb_list (pa_cons (pv 2) pa_nil)) pa_nil))) pa_nil)))
    (pss_cons (ps_if (pt_cmpR op_isN (pv 7) pe_non (nomark _)) (pss_one ps_never) pss_nil)
    (pss_one (ps_ret (pn c_Entry (hr.mono (by decide : 2 ≤ _)) rfl (pa_cons (pv 1) (pa_cons (pv 2) (pa_cons (pv 3) (pa_cons (pv 4) (pa_cons (pv 5) (pa_cons (pv 6) (pa_cons (pe_op op_cat (pe_lst (pa_cons (pv 1) pa_nil)) (pv 7)) pa_nil))))))))))))))))))), ?_⟩)
    · obtain ⟨_, _, _, _, _, _, _, rfl, _⟩ := h
      rfl
    · obtain ⟨t, U, n, bt, c, ml, hv, rfl, R, ok, N, hb, hm, hh, k⟩ := h
      obtain ⟨dx, r, nb, l, mk, ht, ⟨ad, hr0, hE⟩, hnum, hls⟩ := R.ex
      refine ⟨_, rfl, n, rfl, List.mem_append_left _ N.nm, fun H1 e1 => ⟨_, rfl, iteF ?_⟩⟩
      refine ⟨_, rfl, t, dx, _, rfl, e1.at ht, fsT_no_has, _, rfl, t, U, n, rfl, R.mono e1, fun H2 e2 => ⟨_, rfl, ?_⟩⟩
      have hno : U.names.contains n = false := Bool.eq_false_iff.mpr fun z => N.new (List.contains_iff_mem.mp z)
      rw [hno]
      have e12 := e1.trans e2
      refine iteF ⟨_, rfl, _, rfl, t, U, bt, c.par, rfl, R.mono e12, e12.at hb, N.pin, N.pnd, fun H3 e3 => ?_⟩
      have e13 := e12.trans e3
      obtain ⟨ms, hml, hmp⟩ := hm.mono e13
      refine ⟨_, rfl, (by decide : 2 ≤ sizeLine), fun q hq => ?_⟩
      have eq := Le.new (o := .tup [.ty "list", .ty "tuple"]) hq
      have e14 := e13.trans eq
      refine ⟨.ref ml, q, _, .type "list", [.type "list", .type "tuple"], true, rfl, upd_same, .cons (.ty "list") (.cons (.ty "tuple") .nil), .base (.lst (eq.at hml)), kit_lt, _, rfl, iteF ?_⟩
      refine ⟨_, rfl, ml, c.marks, rfl, hm.mono e14, N.mks, N.mkd, fun H5 e5 => ?_⟩
      have e15 := e14.trans e5
      refine ⟨_, rfl, _, rfl, _, rfl, ?_⟩
      apply or_any (H0 := H5)
      case h1 =>
        intro K6 ho
        exact ⟨hv, c.hook, _, rfl, hh.mono e15, fun h q => ⟨(N.hk h q).1, rfl⟩, fun H7 e7 => K6 H7 e7⟩
      case h2 =>
        intro K6 ho
        refine ⟨_, rfl, bt, rfl, ⟨_, SqT.of (e15.at hb)⟩, fun D hD => ?_⟩
        refine lc_A (ws_tup (K := K) (a := bt) (l := c.par)) (fun z => .bl (U.sworn z)) (by have := N.psz; omega) hD (fun H' e => SqT.of (e.at (e15.at hb))) ?_ ?_
        · intro z hz Hb e _ QF QT h2
          have e1b := e15.trans e
          exact ⟨rfl, _, rfl, _, cTable, dx, _, _, rfl, e1b.at ht, T.cl_Table, T.n_Table_records, fsT_records, _, rfl, r, U, z, rfl, RecAt.mono e1b ⟨ad, hr0, hE⟩, ok, N.pin z hz, fun H7 e7 => h2 H7 e7⟩
        · intro H7 e7 hD7
          refine ⟨D, c.par.map U.sworn, rfl, SqL.of (by rw [hD7, List.map_map]; rfl), ?_⟩
          rw [List.any_map]
          refine ⟨hv, c.hook, _, rfl, hh.mono (e15.trans e7), fun h q => ⟨(N.hk h q).1, ?_⟩, fun H8 e8 => K6 H8 (e7.trans e8)⟩
          have q2 := (N.hk h q).2
          rw [ho] at q2
          exact q2
      case hR =>
        intro H7 e7'
        have e17 := e15.trans e7'
        refine ⟨_, rfl, bt, rfl, ⟨_, SqT.of (e17.at hb)⟩, fun D hD => ?_⟩
        have hr7 := e17.at hr0
        refine lc_SP (ws_tup (K := K) (a := bt) (l := c.par)) (fun _ => true) (fun D z y H' => RdAt H7 y (U.cl z).line) (by have := N.psz; omega) hD (fun H' e => SqT.of (e.at (e17.at hb))) (fun _ _ _ _ _ h => h) ?_ ?_
        · intro z hz Hb e _ QF QT h1 h2
          have hzn := N.pin z hz
          obtain ⟨dx2, tp, mk2, hv2, ln2, he, _, _, _, hln⟩ := (hE z hzn).ex
          exact ⟨rfl, _, rfl, _, cTable, dx, _, _, rfl, (e17.trans e).at ht, T.cl_Table, T.n_Table_records, fsT_records, _, rfl, r, _, rfl, dget_kv (.inl (e.at hr7)) hzn, _, cEntry, dx2, _, _, rfl, (e17.trans e).at he, T.cl_Entry, T.n_Entry_line, fsE_line, h2 _ Hb (Le.refl _) rfl ⟨ln2, rfl, e17.at hln⟩⟩
        · intro ys H8 e8 hD8 hp8
          rw [filter_yes] at hp8
          have e18 := e17.trans e8
          refine ⟨_, rfl, bt, _, rfl, .inr (SqT.of (e18.at hb)), fun b1 hb1 => ?_⟩
          have f1 := Le.new (o := .lst (vS c.par)) hb1
          refine ⟨(by decide : 1 ≤ sizeLine), fun b2 hb2 => ?_⟩
          have f2 := Le.new (o := .lst [V.ref b1]) hb2
          have hl8 := Paired.length hp8
          have hps := N.psz
          refine ⟨D, b2, _, _, rfl, rfl, (f1.trans f2).at hD8, upd_same, sz5 (by rw [← hl8]; show _ + 1 ≤ _; omega), fun b3 hb3 => ?_⟩
          have f3 := Le.new (o := .lst (ys ++ [V.ref b1])) hb3
          have f13 := (f1.trans f2).trans f3
          have e19 := e18.trans f13
          have hLL : LLAt (upd (upd (upd H8 b1 (.lst (vS c.par))) b2 (.lst [V.ref b1])) b3 (.lst (ys ++ [V.ref b1]))) b3 (c.par.map (fun p => (U.cl p).line) ++ [c.par]) := by
            refine ⟨_, upd_same, Paired.append ?_ (.cons ⟨b1, rfl, (f2.trans f3).at upd_same⟩ .nil)⟩
            exact Paired.mapL hp8 fun z y q => q.mono (e8.trans f13)
          obtain ⟨rr, hln, hmg⟩ := N.ln
          refine ⟨b3, _, rfl, hLL, ?_, ?_, ?_, fun v H9 e9 hv9 => ?_⟩
          · rw [List.length_append, List.length_map]; show _ + 1 ≤ _; omega
          · rw [tot_app]
            have h1 := tot_map (fun p => (U.cl p).line) 20 c.par fun p hp => ok.lsz p (N.pin p hp)
            have h2 : tot [c.par] = c.par.length := by simp [tot]
            omega
          · intro r2 hr2 x hx
            rcases List.mem_append.mp hr2 with q | q
            · obtain ⟨p, hp, rfl⟩ := List.mem_map.mp q
              exact ok.nms x (ok.line p (N.pin p hp) x hx)
            · rw [List.mem_singleton.mp q] at hx
              exact ok.nms x (N.pin x hx)
          rw [hmg] at hv9
          obtain ⟨p9, rfl, hp9⟩ := hv9
          have e20 := e19.trans e9
          show gName 7 _ _ _ _
          refine ⟨_, rfl, rfl, _, rfl, iteF ?_⟩
          refine ⟨_, rfl, _, rfl, _, rfl, _, rfl, _, rfl, _, rfl, _, rfl, (by decide : 1 ≤ sizeLine), fun b4 hb4 => ?_⟩
          have f4 := Le.new (o := .lst [V.str n]) hb4
          have hrl : rr.length ≤ 100 := by
            have q := length_le_of_nodup_of_subset rr Tb.NAMES (mrg_nd hmg) fun x hx => by
              obtain ⟨l2, h1, h2⟩ := (mrg_mem hmg x).1 hx
              rcases List.mem_append.mp h1 with q | q
              · obtain ⟨p, hp, rfl⟩ := List.mem_map.mp q
                exact ok.nms x (ok.line p (N.pin p hp) x h2)
              · rw [List.mem_singleton.mp q] at h2
                exact ok.nms x (N.pin x h2)
            exact Nat.le_trans q (by decide)
          refine ⟨_, rfl, b4, p9, _, _, rfl, rfl, upd_same, f4.at hp9, sz5 (by rw [vS_len]; show 1 + _ ≤ _; omega), fun b5 hb5 => ?_⟩
          have f5 := Le.new (o := .lst ([V.str n] ++ vS rr)) hb5
          have e21 := (e20.trans f4).trans f5
          have hol : upd (upd H9 b4 (.lst [V.str n])) b5 (.lst ([V.str n] ++ vS rr)) b5 = some (.lst (vS c.line)) := by
            rw [upd_same, hln]
            rfl
          generalize upd (upd H9 b4 (.lst [V.str n])) b5 (.lst ([V.str n] ++ vS rr)) = Hz at hol e21
          refine fun x xd hx hxd hne => ?_
          have em := le_make (C := cEntry) hx hxd hne
          have e22 := e21.trans em
          refine ⟨x, xd, H, n, bt, c.own, ml, hv, c.passed, b5, c, rfl, upd_same, e22, e21.fr0 hx, e22.at hb, rfl, hm.mono e22, N.mkd, by have := N.msz; omega, hh.mono e22, rfl, em.at hol, fun ln9 mk9 Hf ef fln fmk hE9 => ⟨rfl, ?_⟩⟩
          exact k x ln9 mk9 Hf ef (e21.fr0 hx) fln fmk hE9
  exact ⟨⟨_, fd, G, T.g_new_entry, F.kp, F.bindsN (ps := ["table", "name", "bases", "sworn", "marks", "hook", "passed"]) fun _ _ _ _ _ _ us hl => match us, hl with | [_, _, _, _, _, _, _], _ => rfl⟩⟩

end
end Sw
set_option linter.all false
set_option maxRecDepth 100000
set_option maxHeartbeats 4000000
/-! Own rules: a method call with keywords on a def with a star parameter and keyword-only ones. -/
namespace Sw
open PySem PySem.Spec PyProof.Rows L2 LamX
/-- by positional values and keywords -/
abbrev SpK := List V → List V → Hp → VK → XK → Prop
def FnRK (P : Program) (w : World) (K : PySem.W.Frag) (mg : Str → Option Value) (base : Heap) (k : Nat) (f : Addr) (ks : List Str) (sp : SpK) : Prop :=
  ∀ (A : Around) (outer : List Env) (s : Shared) (H : Hp) (us ws : List Value) (vs zs : List V) (Q : VK) (E : XK), Room k A → Env0 P w K mg base A outer s H → Vals vs us → Vals zs ws → sp vs zs H Q E →
    codeAny (model P w) A (.call (.ref f) ⟨us, ks.zip ws⟩) (CR CX0 outer P w H s Q E) s
structure CalMK (P : Program) (w : World) (K : PySem.W.Frag) (mg : Str → Option Value) (base : Heap) (C : Addr) (m : Str) (k : Nat) (ks : List Str) (sp : SpK) : Prop where
  ex : ∃ f, FnRK P w K mg base k f ks sp ∧ Meth K C m f ∧ Cls K C
def tMethK (C : Addr) (m : Str) (sp : SpK) (E : XK) (ta : TE) (t tk : TA) : TE := fun σ H Q => ta σ H fun x H1 => ∃ a dx fs, x = .ref a ∧ H1 a = some (.ins C dx fs) ∧ fs.lookup m = none ∧ t σ H1 fun vs H2 => tk σ H2 fun zs H3 => sp (x :: vs) zs H3 Q E
theorem run_fnRK {X : Cx} {pins : List (Addr × Obj)} {σ : St} {H : Hp} {s : Shared} {k : Nat} {f : Addr} {ks : List Str} {sp : SpK} {E : XK} {Q : VK} {us ws : List Value} {vs zs : List V} (F : FnRK X.prog X.w X.K X.mg X.base k f ks sp) (hr : Room k X.A) (hx : Passes CX0 X E) (I : Inv X pins σ H s) (r : Vals vs us) (rz : Vals zs ws) (h : sp vs zs H Q E) :
    codeAny (model X.prog X.w) X.A (.call (.ref f) ⟨us, ks.zip ws⟩) (fun r s' => match r with | .ok (.ret v) => EP X pins σ Q v s' | .ok _ => False | .error e => X.xe e s') s := by
  refine codeAny_mono (F X.A X.stack s H us ws vs zs Q E hr I.env0 r rz h) fun r s' hq => ?_
  cases r with
  | error e => exact hx pins σ H s e s' I hq
  | ok fl =>
    cases fl with
    | ret u => exact I.after hq
    | next => exact False.elim hq
    | brk => exact False.elim hq
    | cont => exact False.elim hq
theorem pmK {X : Cx} {k : Nat} {C : Addr} {m : Str} {ks : List Str} {sp : SpK} {o e : Expr} {es : List Expr} {kws : List Keyword} {ta : TE} {t tk : TA} {apos pos : Pos} {pl : Sem Bool} (F : CalMK X.prog X.w X.K X.mg X.base C m k ks sp) (hr : Room k X.A) (he : PE X o ta) (ha : PA X (e :: es) t) (hkw : PK X kws tk)
    (hall : (backToKw pos (keywordEach kws X.env)).all (·.1.isSome) = true := by rfl) (hks : (backToKw pos (keywordEach kws X.env)).filterMap (·.1) = ks := by rfl)
    (hst : starEach (e :: es) X.env = (false, eval e X.env) :: starEach es X.env := by rfl)
    (hpl : ((backTo pos (starEach (e :: es) X.env)).any (·.1) || (backToKw pos (keywordEach kws X.env)).any (·.1.isNone)) = false := by rfl)
    (ht : eval (.Call (.Attribute o m apos) (e :: es) kws pos) X.env = (do
      let ov ← eval o X.env
      standAt apos.atName
      let (f, first) ← holding [ov] (getMethod ov m pl)
      callWith pos f first (backTo pos (starEach (e :: es) X.env)) (backToKw pos (keywordEach kws X.env))) := by rfl) :
    PE X (.Call (.Attribute o m apos) (e :: es) kws pos) (tMethK C m sp E0 ta t tk) := by
  obtain ⟨f, F, hm, c⟩ := F.ex
  refine ⟨fun pins s σ H Q I h => ?_⟩
  refine PySem.W.methodCall_KW (pl := pl) (thn (he.run pins s σ H _ I h) fun u s1 ⟨x, H1, I1, rx, a, dx, fs, ex, ea, l, q⟩ => ?_) ht
  subst ex
  obtain rfl : u = Value.ref a := rx
  refine getmeth_ok I1 ea c hm l ?_
  refine PySem.W.callWith_KW (first := [.ref a]) (h₀ := X.base) I.ok.mod.kin hm.kp hall (thn (ha.run pos pins s1 σ H1 _ I1 q) fun us s2 ⟨vs, H2, I2, r, q2⟩ => ?_) hpl hst
  refine thn (hkw.run pos pins s2 σ H2 _ I2 q2) fun ws s3 ⟨zs, H3, I3, rz, q3⟩ => ⟨I3.kIn, ?_⟩
  rw [hks]
  exact wpAny_call (run_fnRK (us := .ref a :: us) (vs := .ref a :: vs) F hr pass0 I3 (.cons rfl r) rz q3)
/-- def m(self, a, *v, k1, k2, k3, k4), all four by name -/
def kwSp (sp : Sp) : SpK := fun vs zs H Q E => ∃ o n rest c1 c2 c3 c4, vs = o :: n :: rest ∧ zs = [c1, c2, c3, c4] ∧ rest.length ≤ 3 ∧ ∀ p, H p = none → sp [o, n, c1, c2, c3, c4, .ref p] (upd H p (.tup rest)) Q E
theorem fn_kw4 {P : Program} {w : World} {K : PySem.W.Frag} {mg : Str → Option Value} {base : Heap} {k : Nat} {f : Addr} {name qual : Str} {params : Arguments} {body : List Stmt} {scope : Scope} {dV kV doc pm cdv ct oc : Value} {an od : Option Addr}
    {osl : Array (Option Value)} {N : List Str} {p1 p2 k1 k2 k3 k4 pv : Str} {sp : Sp} (lk : K.lookup f = some ⟨oc, od, .func (PySem.W.fnOf name qual params body scope dV kV doc pm an cdv ct), osl⟩) (hcd : PySem.W.codeIn K cdv qual = true) (S : FnScope N [p1, p2, k1, k2, k3, k4, pv] scope)
    (hb : ∀ (a b c1 c2 c3 c4 : Value) (rest : List Value), rest.length ≤ 3 → bindArgs (PySem.W.fnOf name qual params body scope dV kV doc pm an cdv ct) ⟨a :: b :: rest, [(k1, c1), (k2, c2), (k3, c3), (k4, c4)]⟩ = (newTuple rest >>= fun t => pure [(p1, a), (p2, b), (k1, c1), (k2, c2), (k3, c3), (k4, c4), (pv, t)]))
    (hbody : ∀ (A : Around) (outer : List Env) (s : Shared) (H : Hp) (vs : List V) (Q : VK) (E : XK), Room k (A.deeper (envOfC qual scope s.heap.objs.size f cdv)) → sp vs H Q E →
      ∃ t, PSs (cxOf CX0 P w K mg base N qual scope f cdv A outer s H E) body t ∧ t { nx := fun _ H' => Q .non H', rt := Q } (start N vs) H) :
    FnRK P w K mg base (k + 1) f [k1, k2, k3, k4] (kwSp sp) := by
  intro A outer s H us ws vs zs Q E hr e0 r rz hsp
  obtain ⟨o, n, rest, c1, c2, c3, c4, rfl, rfl, hz, hq⟩ := hsp
  cases r with | cons ro r => ?_
  cases r with | cons rn r => ?_
  cases rz with | cons z1 rz => ?_
  cases rz with | cons z2 rz => ?_
  cases rz with | cons z3 rz => ?_
  cases rz with | cons z4 rz => ?_
  cases rz
  rename_i uo un' ur w1 w2 w3 w4
  have hn : H s.heap.objs.size = Option.none := e0.hok.fresh (Nat.le_refl _)
  have hl2 : ur.length ≤ 3 := by rw [← r.length]; exact hz
  have hl3 : ur.length ≤ sizeLine := Nat.le_trans hl2 (by decide)
  refine StX.run_bnd (N := N) (ps := [p1, p2, k1, k2, k3, k4, pv]) lk hcd S hr e0 (G := fun xs H2 => ∃ p, H p = Option.none ∧ xs = [o, n, c1, c2, c3, c4, V.ref p] ∧ H2 = upd H p (.tup rest)) (fun A' Ex Q' h => ?_) fun s2 H2 xs ⟨p, hp, ex, eH⟩ hr' => ?_
  · show wpAny _ _ (bindArgs _ ⟨uo :: un' :: ur, [(k1, w1), (k2, w2), (k3, w3), (k4, w4)]⟩) _ _ _
    rw [hb uo un' w1 w2 w3 w4 ur hl2]
    refine wpAny_bind (wpAny_newTuple (wpAny_pure ?_) hl3)
    have new : ObjOk P w (upd H s.heap.objs.size (.tup rest)) (s.heap.push ({ cls := .type "tuple", data := .seq ur.toArray } : Obj)) s.heap.objs.size (.tup rest) := ⟨Nat.le_trans hz (by decide), ur, r, ⟨_, Heap.get?_push_size _ rfl, rfl, _, rfl⟩⟩
    have un := StX.un_laid (fs := frs outer) (s := s) (o := ({ cls := .type "tuple", data := .seq ur.toArray } : Obj)) (u := .tup rest) hn
    exact h _ _ [o, n, c1, c2, c3, c4, V.ref s.heap.objs.size] [uo, un', w1, w2, w3, w4, Value.ref s.heap.objs.size] (StX.env0_laid e0 new) un rfl (fun e s' => cxUp0 outer s H _ _ E e s' un (fun b o q => Heap.get?_push_of_some _ q) rfl)
      (.cons ro (.cons rn (.cons z1 (.cons z2 (.cons z3 (.cons z4 (.cons rfl .nil))))))) rfl ⟨_, hn, rfl, rfl⟩
  · subst ex eH
    exact hbody A outer s2 _ _ Q E hr' (hq p hp)
theorem bind_kw4 {B : List Value → Sem (List (Str × Value))} {G : List Value → Sem (List (Str × Value))} (h0 : B [] = G []) (h1 : ∀ a, B [a] = G [a]) (h2 : ∀ a b, B [a, b] = G [a, b]) (h3 : ∀ a b c, B [a, b, c] = G [a, b, c]) : ∀ rest : List Value, rest.length ≤ 3 → B rest = G rest
  | [], _ => h0
  | [a], _ => h1 a
  | [a, b], _ => h2 a b
  | [a, b, c], _ => h3 a b c
  | _ :: _ :: _ :: _ :: r, h => absurd h (by simp only [List.length_cons]; omega)
end Sw
set_option linter.all false
set_option maxRecDepth 100000
set_option maxHeartbeats 4000000
/-! SwF18: a class is put in. Terms printed by gen_term.py. -/
namespace Sw
open PySem PySem.Spec PyProof.Rows L2 LamX
section
variable {P : Program} {w : World} {K : PySem.W.Frag} {mg : Str → Option Value} {base : Heap}


/-- a class more -/
def Tb.add (U : Tb) (n : Str) (c : Cl) : Tb := ⟨U.names ++ [n], fun m => if m = n then c else U.cl m, fun m => if m = n then [] else U.ls m⟩
def fput (f : Str → Addr) (n : Str) (a : Addr) : Str → Addr := fun m => if m = n then a else f m
def spAddClass : Sp := fun vs H Q _ => ∃ t e H0 U n c ln mk dx r nb l i ad lf mf la, vs = [.ref t, .ref e] ∧ Le H0 H ∧ TabX H0 H t U dx r nb l i ad lf mf la ∧ EntL H e n c ln mk ∧ n ∉ U.names ∧ U.names.length ≤ 20 ∧ (mk ≠ r ∧ mk ≠ nb ∧ mk ≠ l) ∧ (∀ m ∈ U.names, ln ≠ la m) ∧
  ∀ q H', Le H0 H' → Fre H q → (∀ b o, b ≠ t → b ≠ r → b ≠ nb → b ≠ l → H b = some o → plainO o = true → H' b = some o) → TabX H0 H' t (U.add n c) dx r nb l (i + 1) (fput ad n e) (fput lf n ln) (fput mf n mk) (fput la n q) → Q .non H'

theorem sc_Table_add_class : FnScope ["self", "entry"] ["self", "entry"] (defScope s_Table_add_class) := ⟨rfl, rfl, rfl, by decide +kernel, rfl, by decide +kernel, by decide +kernel⟩
theorem ok_Table_add_class (T : Tx K mg)  : CalM P w K mg base cTable "add_class" 1 ["self", "entry"] spAddClass := by
  obtain ⟨fd, F⟩ := T.fn _ fi_Table_add_class
  have G : FnOk P w K mg base CX0 1 d_Table_add_class.f fd ["self", "entry"] spAddClass := by
    refine F.ok sc_Table_add_class (fun vs H Q E h => ?_) (fun cdv A outer s H vs Q E hr h => ⟨_, PSs.nox (X := cxOf CX0 P w K mg base _ _ _ _ cdv A outer s H E) ((pss_cons (wsfldaug K (pv 0) pe_int in_add)
    (pss_cons (ps_dput (hu_of hr) (wfld K (pv 0) rfl) (wfld K (pv 1) rfl) (pv 1) rfl)
    (pss_cons (ps_dput (hu_of hr) (wfld K (pv 0) rfl) (wfld K (pv 1) rfl) (wfld K (pv 0) rfl) rfl)
    (pss_one (ps_dput (hu_of hr) (wfld K (pv 0) rfl) (wfld K (pv 1) rfl) (pe_lst pa_nil) rfl)))))), ?_⟩)
    · obtain ⟨_, _, _, _, _, _, _, _, _, _, _, _, _, _, _, _, _, rfl, _⟩ := h
      rfl
    · obtain ⟨t, e, H0, U, n, c, ln, mk, dx, r, nb, l, i, ad, lf, mf, la, rfl, e0, X, hE, hn, hz, ⟨m1, m2, m3⟩, hl, k⟩ := h
      obtain ⟨edx, etp, ehv, he, hetp, hemk, hehv, heln⟩ := id hE
      obtain ⟨kv, hkv, hkz⟩ := X.hn
      have c2 := T.cl_Table
      have ne : ∀ {a b : Addr} {u v : HO}, H a = some u → H b = some v → u ≠ v → a ≠ b := fun h1 h2 n z => by rw [z, h2] at h1; exact n (Option.some.inj h1).symm
      have tr : r ≠ t := ne X.hr X.ht (fun z => by cases z)
      have tnb : nb ≠ t := ne hkv X.ht (fun z => by cases z)
      have tl : l ≠ t := ne X.hl X.ht (fun z => by cases z)
      have te : e ≠ t := ne he X.ht (fun z => by cases z)
      have er : e ≠ r := ne he X.hr (fun z => by cases z)
      have enb : e ≠ nb := ne he hkv (fun z => by cases z)
      refine ⟨_, rfl, t, cTable, dx, _, _, rfl, X.ht, c2, T.n_Table_made, fsT_made, _, _, rfl, rfl, dx, _, X.ht, fsT_len, ?_⟩
      rw [fsT_made_i]
      have he1 : upd H t (.ins cTable dx (fsT r nb l (i + 1))) e = some _ := (upd_ne te).trans he
      have hr1 : upd H t (.ins cTable dx (fsT r nb l (i + 1))) r = some _ := (upd_ne tr).trans X.hr
      refine ⟨_, rfl, _, rfl, t, cTable, dx, _, _, rfl, upd_same, c2, T.n_Table_records, fsT_records, _, rfl, e, cEntry, edx, _, _, rfl, he1, T.cl_Entry, T.n_Entry_label, fsE_label, r, _, rfl, .inl ⟨_, Sum.inr n, hr1, rfl, sz5' (by rw [kvR_len]; omega), rfl⟩, ?_⟩
      rw [kvR_put hn]
      have E1 := e0.mutF (o := .ins cTable dx (fsT r nb l (i + 1))) X.ft X.ht rfl
      have E2 := E1.mutF (o := .dK (kvR (U.names ++ [n]) fun m => if m = n then e else ad m)) X.fr hr1 rfl
      have g2 : ∀ {b : Addr} {o : HO}, b ≠ t → b ≠ r → H b = some o → upd (upd H t (.ins cTable dx (fsT r nb l (i + 1)))) r (.dK (kvR (U.names ++ [n]) fun m => if m = n then e else ad m)) b = some o := fun h1 h2 h => by rw [upd_ne h2, upd_ne h1]; exact h
      have ht2 : upd (upd H t (.ins cTable dx (fsT r nb l (i + 1)))) r (.dK (kvR (U.names ++ [n]) fun m => if m = n then e else ad m)) t = some (.ins cTable dx (fsT r nb l (i + 1))) := by rw [upd_ne tr.symm, upd_same]
      have hr2 : upd (upd H t (.ins cTable dx (fsT r nb l (i + 1)))) r (.dK (kvR (U.names ++ [n]) fun m => if m = n then e else ad m)) r = some (.dK (kvR (U.names ++ [n]) fun m => if m = n then e else ad m)) := upd_same
      generalize upd (upd H t (.ins cTable dx (fsT r nb l (i + 1)))) r (.dK (kvR (U.names ++ [n]) fun m => if m = n then e else ad m)) = H2 at E2 g2 ht2 hr2
      have hkv2 := g2 tnb X.d1.symm hkv
      have he2 := g2 te er he
      refine ⟨_, rfl, _, cTable, dx, _, _, rfl, ht2, c2, T.n_Table_made, fsT_made, _, rfl, t, cTable, dx, _, _, rfl, ht2, c2, T.n_Table_numbers, fsT_numbers, _, rfl, e, cEntry, edx, _, _, rfl, he2, T.cl_Entry, T.n_Entry_label, fsE_label, nb, _, rfl, .inl ⟨kv, Sum.inr n, hkv2, rfl, sz5' (by omega), rfl⟩, ?_⟩
      have E3 := E2.mutF (o := .dK (putK kv (Sum.inr n) (.int (i + 1)))) X.fnb hkv2 rfl
      have hlen3 : (putK kv (Sum.inr n) (V.int (i + 1))).length ≤ U.names.length + 1 := Nat.le_trans (length_putK ..) (by omega)
      have g3 : ∀ {b : Addr} {o : HO}, b ≠ t → b ≠ r → b ≠ nb → H b = some o → upd H2 nb (.dK (putK kv (Sum.inr n) (.int (i + 1)))) b = some o := fun h1 h2 h3 h => by rw [upd_ne h3]; exact g2 h1 h2 h
      have ht3 : upd H2 nb (.dK (putK kv (Sum.inr n) (.int (i + 1)))) t = _ := (upd_ne tnb.symm).trans ht2
      have hr3 : upd H2 nb (.dK (putK kv (Sum.inr n) (.int (i + 1)))) r = _ := (upd_ne X.d1).trans hr2
      have hnb3 : upd H2 nb (.dK (putK kv (Sum.inr n) (.int (i + 1)))) nb = some (.dK (putK kv (Sum.inr n) (.int (i + 1)))) := upd_same
      generalize upd H2 nb (.dK (putK kv (Sum.inr n) (.int (i + 1)))) = H3 at E3 g3 ht3 hr3 hnb3
      refine ⟨(by decide : 0 ≤ sizeLine), fun q hq => ?_⟩
      have e4 := Le.new (o := .lst []) hq
      have hl3 := g3 tl X.d2.symm X.d3.symm X.hl
      refine ⟨_, rfl, t, cTable, dx, _, _, rfl, e4.at ht3, c2, T.n_Table_lists, fsT_lists, _, rfl, e, cEntry, edx, _, _, rfl, e4.at (g3 te er enb he), T.cl_Entry, T.n_Entry_label, fsE_label, l, _, rfl, .inl ⟨_, Sum.inr n, e4.at hl3, rfl, sz5' (by rw [kvR_len]; omega), rfl⟩, ?_⟩
      rw [kvR_put hn]
      have E5 := (E3.trans e4).mutF (o := .dK (kvR (U.names ++ [n]) fun m => if m = n then q else la m)) X.fl (e4.at hl3) rfl
      have fq : Fre H q := fun o pl h => by
        have q2 : q = t ∨ q = r ∨ q = nb := Classical.byContradiction fun z => by
          have := g3 (fun z2 => z (.inl z2)) (fun z2 => z (.inr (.inl z2))) (fun z2 => z (.inr (.inr z2))) h
          rw [hq] at this
          cases this
        rcases q2 with z | z | z
        · rw [z, ht3] at hq; cases hq
        · rw [z, hr3] at hq; cases hq
        · rw [z, hnb3] at hq; cases hq
      have ql : q ≠ l := fun z => by rw [z, hl3] at hq; cases hq
      have G : ∀ b o, b ≠ t → b ≠ r → b ≠ nb → b ≠ l → H b = some o → plainO o = true → upd (upd H3 q (.lst [])) l (.dK (kvR (U.names ++ [n]) fun m => if m = n then q else la m)) b = some o := fun b o h1 h2 h3 h4 h pl => by
        rw [upd_ne h4]
        exact e4.at (g3 h1 h2 h3 h) pl
      have KI : KeepI H (upd (upd H3 q (.lst [])) l (.dK (kvR (U.names ++ [n]) fun m => if m = n then q else la m))) := fun b o hb im => G b o (fun z => by rw [z, X.ht] at hb; cases hb; cases im) (fun z => by rw [z, X.hr] at hb; cases hb; cases im) (fun z => by rw [z, hkv] at hb; cases hb; cases im) (fun z => by rw [z, X.hl] at hb; cases hb; cases im) hb (imm_plain im)
      have gl : ∀ {b : Addr} {xs : List V}, H b = some (.lst xs) → upd (upd H3 q (.lst [])) l (.dK (kvR (U.names ++ [n]) fun m => if m = n then q else la m)) b = some (.lst xs) := fun h => G _ _ (ne h X.ht (fun z => by cases z)) (ne h X.hr (fun z => by cases z)) (ne h hkv (fun z => by cases z)) (ne h X.hl (fun z => by cases z)) h rfl
      have gm : ∀ {b : Addr} {kvs : List (Key × V)}, H b = some (.dK kvs) → b ≠ r → b ≠ nb → b ≠ l → upd (upd H3 q (.lst [])) l (.dK (kvR (U.names ++ [n]) fun m => if m = n then q else la m)) b = some (.dK kvs) := fun h h1 h2 h3 => G _ _ (ne h X.ht (fun z => by cases z)) h1 h2 h3 h rfl
      have hE' := hE.keep KI ((gl heln).trans heln.symm) ((gm hemk m1 m2 m3).trans hemk.symm)
      have old : ∀ m ∈ U.names, EntL (upd (upd H3 q (.lst [])) l (.dK (kvR (U.names ++ [n]) fun m => if m = n then q else la m))) (ad m) m (U.cl m) (lf m) (mf m) := fun m hm => by
        have h1 := X.he m hm
        obtain ⟨_, _, _, _, _, a3, _, a5⟩ := id h1
        obtain ⟨b1, b2, b3⟩ := X.dm m hm
        exact h1.keep KI ((gl a5).trans a5.symm) ((gm a3 b1 b2 b3).trans a3.symm)
      have nn : ∀ m ∈ U.names, m ≠ n := fun m hm z => hn (by rw [← z]; exact hm)
      have spl : ∀ m ∈ U.names ++ [n], m ∈ U.names ∨ m = n := fun m hm => (List.mem_append.mp hm).imp id List.mem_singleton.mp
      refine k q _ E5 fq G ⟨?_, ?_, fun m hm => ?_, ⟨putK kv (Sum.inr n) (.int (i + 1)), ?_, by show _ ≤ (U.names ++ [n]).length; rw [List.length_append]; exact hlen3⟩, upd_same, fun m hm => ?_, X.ft, X.fr, X.fnb, X.fl, fun m hm => ?_, fun a ha b hb => ?_, fun a ha b hb => ?_, X.d1, X.d2, X.d3, fun m hm => ?_⟩
      · rw [upd_ne tl.symm]; exact e4.at ht3
      · rw [upd_ne X.d2]; exact e4.at hr3
      · show EntL _ (if m = n then e else ad m) m (if m = n then c else U.cl m) (if m = n then ln else lf m) (if m = n then mk else mf m)
        rcases spl m hm with z | z
        · simp only [if_neg (nn m z)]; exact old m z
        · subst z; simp only [if_true]; exact hE'
      · rw [upd_ne X.d3]; exact e4.at hnb3
      · show _ = some (HO.lst (vS (if m = n then [] else U.ls m)))
        show upd _ _ _ (if m = n then q else la m) = _
        rcases spl m hm with z | z
        · simp only [if_neg (nn m z)]; exact gl (X.hls m z)
        · subst z; simp only [if_true]; rw [upd_ne ql]; exact upd_same
      · show Fre H0 (if m = n then q else la m)
        rcases spl m hm with z | z
        · simp only [if_neg (nn m z)]; exact X.fla m z
        · subst z; simp only [if_true]; exact e0.fre fq
      · show (if a = n then q else la a) = (if b = n then q else la b) → a = b
        rcases spl a ha with z | z <;> rcases spl b hb with z2 | z2
        · simp only [if_neg (nn a z), if_neg (nn b z2)]; exact X.inj a z b z2
        · subst z2; simp only [if_neg (nn a z), if_true]; exact fun w => absurd w (fq.ne (X.hls a z))
        · subst z; simp only [if_neg (nn b z2), if_true]; exact fun w => absurd w.symm (fq.ne (X.hls b z2))
        · intro _; rw [z, z2]
      · show (if a = n then ln else lf a) ≠ (if b = n then q else la b)
        rcases spl a ha with z | z <;> rcases spl b hb with z2 | z2
        · simp only [if_neg (nn a z), if_neg (nn b z2)]; exact X.sep a z b z2
        · subst z2
          simp only [if_neg (nn a z), if_true]
          obtain ⟨_, _, _, _, _, _, _, a5⟩ := X.he a z
          exact fq.ne a5
        · subst z; simp only [if_neg (nn b z2), if_true]; exact hl b z2
        · subst z; subst z2; simp only [if_true]; exact fq.ne heln
      · show (if m = n then mk else mf m) ≠ r ∧ (if m = n then mk else mf m) ≠ nb ∧ (if m = n then mk else mf m) ≠ l
        rcases spl m hm with z | z
        · simp only [if_neg (nn m z)]; exact X.dm m z
        · subst z; simp only [if_true]; exact ⟨m1, m2, m3⟩
  exact ⟨⟨_, fd, G, T.m_Table_add_class, T.cl_Table, F.bindsN (ps := ["self", "entry"]) fun _ _ _ _ _ _ us hl => match us, hl with | [_, _], _ => rfl⟩⟩

end
end Sw
set_option linter.all false
set_option maxRecDepth 100000
set_option maxHeartbeats 4000000
/-! SwF28: a class is made. Terms printed by gen_term.py. -/
namespace Sw
open PySem PySem.Spec PyProof.Rows L2 LamX
section
variable {P : Program} {w : World} {K : PySem.W.Frag} {mg : Str → Option Value} {base : Heap}


def spMake : Sp := fun vs H Q _ => ∃ w U n c ml hv bt H0, vs = [.ref w, .str n, .bl c.own, .ref ml, hv, .bl c.passed, .ref bt] ∧ Le H0 H ∧ WldF H0 H w U ∧ U.Ok ∧ NewCl U n c ∧ H bt = some (.tup (vS c.par)) ∧ RegsAt H ml c.marks ∧ OHook H hv c.hook ∧
  ∀ H', Le H0 H' → WldF H0 H' w (U.add n c) → Q .non H'

theorem sc_World_make : FnScope ["self", "name", "sworn", "marks", "hook", "passed", "bases"] ["self", "name", "sworn", "marks", "hook", "passed", "bases"] (defScope s_World_make) := ⟨rfl, rfl, rfl, by decide +kernel, rfl, by decide +kernel, by decide +kernel⟩
theorem ok_World_make (T : Tx K mg) (c_new_entry : Cal P w K mg base "new_entry" 6 ["table", "name", "bases", "sworn", "marks", "hook", "passed"] spNewEntry) (c_Table_add_class : CalM P w K mg base cTable "add_class" 1 ["self", "entry"] spAddClass) (c_World_refresh : CalM P w K mg base cWorld "refresh" 4 ["self"] spWRef) : CalMK P w K mg base cWorld "make" 7 ["sworn", "marks", "hook", "passed"] (kwSp spMake) := by
  obtain ⟨fd, F⟩ := T.fn _ fi_World_make
  obtain ⟨oc, od, dV, kV, doc, pmv, an, cdv, ct, osl, rfl, lk, hcd, hD, _⟩ := F.ex
  obtain ⟨_, rfl⟩ : ([] : List V) = [] ∧ dV = .none := hD.elim id fun z => absurd rfl z.1
  have G : FnRK P w K mg base 7 d_World_make.f ["sworn", "marks", "hook", "passed"] (kwSp spMake) := by
    refine fn_kw4 (p1 := "self") (p2 := "name") (k1 := "sworn") (k2 := "marks") (k3 := "hook") (k4 := "passed") (pv := "bases") (N := ["self", "name", "sworn", "marks", "hook", "passed", "bases"]) (sp := spMake) lk hcd sc_World_make (fun a b c1 c2 c3 c4 => bind_kw4 (B := fun us => bindArgs (PySem.W.fnOf d_World_make.name d_World_make.qual d_World_make.params d_World_make.body d_World_make.scope .none kV doc pmv an cdv ct) ⟨a :: b :: us, [("sworn", c1), ("marks", c2), ("hook", c3), ("passed", c4)]⟩) (G := fun rest => newTuple rest >>= fun t => pure [("self", a), ("name", b), ("sworn", c1), ("marks", c2), ("hook", c3), ("passed", c4), ("bases", t)]) rfl (fun _ => rfl) (fun _ _ => rfl) (fun _ _ _ => rfl)) (fun A outer s H vs Q E hr h => ⟨_, PSs.nox (X := cxOf CX0 P w K mg base _ _ _ _ cdv A outer s H E) ((pss_cons (ps_expr (pm c_Table_add_class (hr.mono (by decide : 1 ≤ _)) (wfld K (pv 0) rfl) (pa_cons (pc c_new_entry hr rfl (pa_cons (wfld K (pv 0) rfl) (pa_cons (pv 1) (pa_cons (pv 6) (pa_cons (pv 2) (pa_cons (pv 3) (pa_cons (pv 4) (pa_cons (pv 5) pa_nil)))))))) pa_nil)))
    (pss_one (ps_expr (pm0 c_World_refresh (hr.mono (by decide : 4 ≤ _)) (pv 0)))))), ?_⟩)
    · obtain ⟨w, U, n, c, ml, hv, bt, H0, rfl, e0, W, ok, N, hb, hm, hh, k⟩ := h
      have WA := W.at_
      obtain ⟨t, dx, r, nb, l, mk, ad, lf, mf, la, X⟩ := W.ex
      obtain ⟨dxw, ca, vi, th, ch, dxc, kp, h1, h2, h3, h4, h5, h6, h7, h8, h9⟩ := X.hw
      have RT : TabAt H t U := TabF.tab ⟨dx, r, nb, l, mk, ad, lf, mf, la, X.tx⟩
      refine ⟨_, rfl, _, cWorld, dxw, _, _, rfl, h1, T.cl_World, T.n_World_table, fsW_table, t, dx, _, rfl, X.tx.ht, fsT_no_add_class, ?_⟩
      refine ⟨_, rfl, _, cWorld, dxw, _, _, rfl, h1, T.cl_World, T.n_World_table, fsW_table, _, rfl, _, rfl, _, rfl, _, rfl, _, rfl, _, rfl, ?_⟩
      refine ⟨t, U, n, bt, c, ml, hv, rfl, RT, ok, N, hb, hm, hh, fun e ln mk2 H1 e1 fe fln fmk hE => ?_⟩
      have X1 := X.mono e1
      obtain ⟨kv, hkv, _⟩ := X.tx.hn
      refine ⟨t, e, H0, U, n, c, ln, mk2, dx, r, nb, l, mk, ad, lf, mf, la, rfl, e0.trans e1, X1.tx, hE, N.new, ok.sz, ⟨(fmk.ne X.tx.hr).symm, (fmk.ne hkv).symm, (fmk.ne X.tx.hl).symm⟩, fun m hm => (fln.ne (X.tx.hls m hm)).symm, fun q H2 e2 fq g X2 => ?_⟩
      have ne : ∀ {a b : Addr} {u v : HO}, H a = some u → H b = some v → u ≠ v → a ≠ b := fun h1 h2 n z => by rw [z, h2] at h1; exact n (Option.some.inj h1).symm
      have keep : ∀ {b : Addr} {o : HO}, H b = some o → b ≠ t → b ≠ r → b ≠ nb → b ≠ l → plainO o = true → H2 b = some o := fun hb a1 a2 a3 a4 pl => g _ _ a1 a2 a3 a4 (e1.at hb pl) pl
      have W2 : WldF H0 H2 w (U.add n c) := by
        refine ⟨t, dx, r, nb, l, _, _, _, _, _, ⟨dxw, ca, vi, th, ch, dxc, kp, keep h1 (ne h1 X.tx.ht fun z => by cases z) (ne h1 X.tx.hr fun z => by cases z) (ne h1 hkv fun z => by cases z) (ne h1 X.tx.hl fun z => by cases z) rfl, keep h2 (ne h2 X.tx.ht fun z => by cases z) (ne h2 X.tx.hr fun z => by cases z) (ne h2 hkv fun z => by cases z) (ne h2 X.tx.hl fun z => by cases z) rfl,
          keep h3 (ne h3 X.tx.ht fun z => by cases z) h6 h7 h8 rfl, keep h4 (ne h4 X.tx.ht fun z => by cases z) (ne h4 X.tx.hr fun z => by cases z) (ne h4 hkv fun z => by cases z) (ne h4 X.tx.hl fun z => by cases z) rfl, h5, h6, h7, h8, fun m hm => ?_⟩, X2⟩
        show (if m = n then q else la m) ≠ ch
        by_cases z : m = n
        · rw [if_pos z]
          exact (fq.ne (e1.at h4)).symm
        · rw [if_neg z]
          rcases List.mem_append.mp hm with y | y
          · exact h9 m y
          · exact absurd (List.mem_singleton.mp y) z
      obtain ⟨dxw2, t2, ca2, vi2, th2, ch2, hw2, _⟩ := W2.at_.ex
      exact ⟨_, rfl, w, dxw2, _, rfl, hw2, fsW_no_refresh, w, U.add n c, H0, rfl, e2, W2, k⟩
  exact ⟨_, G, T.m_World_make, T.cl_World⟩

end
end Sw
set_option linter.all false
set_option maxHeartbeats 2000000
/-! From tables to the abstract plain law. -/
namespace Sw
open PySem
/-- what the making of classes keeps -/
structure Tb.Cls (U : Tb) : Prop where
  line : ∀ b ∈ U.names, ∀ z, z ∈ (U.cl b).line ↔ z = b ∨ ∃ p ∈ (U.cl b).par, z ∈ (U.cl p).line
  rank : ∃ rk : Str → Nat, ∀ b ∈ U.names, ∀ p ∈ (U.cl b).par, rk p < rk b
def Tb.shape (U : Tb) : Shape Str where
  sw x := x ∈ U.names ∧ U.sworn x = true
  sub z b := b ∈ U.names ∧ z ∈ (U.cl b).par
  ln z b := z = b ∨ (b ∈ U.names ∧ z ∈ (U.cl b).line)
theorem Tb.Cls.up {U : Tb} (c : U.Cls) (ok : U.Ok) (z b : Str) : U.shape.ln z b ↔ Rch U.shape.sub z b := by
  obtain ⟨rk, hrk⟩ := c.rank
  constructor
  · have go : ∀ n b, rk b < n → b ∈ U.names → z ∈ (U.cl b).line → Rch U.shape.sub z b := by
      intro n
      induction n with
      | zero => intro b h; exact absurd h (Nat.not_lt_zero _)
      | succ n ih =>
        intro b h hb hz
        rcases (c.line b hb z).1 hz with e | ⟨p, hp, hzp⟩
        · rw [e]; exact .refl _
        · exact .tail (ih p (Nat.lt_of_lt_of_le (hrk b hb p hp) (Nat.le_of_lt_succ h)) (ok.pin b hb p hp) hzp) ⟨hb, hp⟩
    rintro (e | ⟨hb, hz⟩)
    · rw [e]; exact .refl _
    · exact go _ b (Nat.lt_succ_self _) hb hz
  · intro h
    induction h with
    | refl => exact .inl rfl
    | @tail y x h s ih =>
      obtain ⟨hx, hp⟩ := s
      refine .inr ⟨hx, (c.line x hx z).2 (.inr ⟨y, hp, ?_⟩)⟩
      rcases ih with e | ⟨_, hz⟩
      · rw [e]; exact (c.line y (ok.pin x hx y hp) y).2 (.inl rfl)
      · exact hz
theorem Tb.Cls.ok {U : Tb} (c : U.Cls) (ok : U.Ok) : U.shape.Ok := by
  obtain ⟨rk, hrk⟩ := c.rank
  have lt : ∀ z b, Rch U.shape.sub z b → z = b ∨ rk z < rk b := by
    intro z b h
    induction h with
    | refl => exact .inl rfl
    | tail h s ih =>
      refine .inr ?_
      have q := hrk _ s.1 _ s.2
      rcases ih with e | e
      · rw [e]; exact q
      · omega
  refine ⟨c.up ok, fun z b h1 h2 => ?_, fun z b h1 h2 => ⟨h1.1, ?_⟩⟩
  · rcases lt z b ((c.up ok z b).1 h1) with e | e
    · exact e
    · rcases lt b z ((c.up ok b z).1 h2) with e2 | e2
      · exact e2.symm
      · omega
  · have q := h2.2
    unfold Tb.sworn at q ⊢
    rw [List.any_eq_true] at q ⊢
    obtain ⟨m, hm, ho⟩ := q
    exact ⟨m, (c.line b h1.1 m).2 (.inr ⟨z, h1.2, hm⟩), ho⟩
def Tb.R (U : Tb) (u v : Str) : Prop := u ∈ U.names ∧ v ∈ U.ls u
theorem Tb.next_iff {U : Tb} {u : Str} (hu : u ∈ U.names) (v : Str) : v ∈ U.next u ↔ nx U.shape U.R u v := by
  unfold Tb.next
  constructor
  · intro h
    split at h
    · rename_i hs
      refine ⟨⟨hu, hs⟩, ?_⟩
      rcases List.mem_append.mp h with q | q
      · exact .inl ⟨hu, q⟩
      · have q2 := List.mem_filter.mp (List.mem_filter.mp q).1
        exact .inr ⟨q2.1, List.contains_iff_mem.mp q2.2⟩
    · cases h
  · rintro ⟨⟨_, hs⟩, h⟩
    rw [if_pos hs, List.mem_append]
    by_cases hv : v ∈ U.ls u
    · exact .inl hv
    · refine .inr (List.mem_filter.mpr ⟨?_, ?_⟩)
      · rcases h with q | q
        · exact absurd q.2 hv
        · exact List.mem_filter.mpr ⟨q.1, List.contains_iff_mem.mpr q.2⟩
      · rw [Bool.not_eq_true', Bool.eq_false_iff]
        exact fun z => hv (List.contains_iff_mem.mp z)
theorem Tb.Rn_iff {U : Tb} (ok : U.Ok) {u : Str} (hu : u ∈ U.names) (v : Str) : U.Rn u v ↔ Rch (nx U.shape U.R) u v := by
  constructor
  · intro h
    have go : Rch (nx U.shape U.R) u v ∧ v ∈ U.names := by
      induction h with
      | refl => exact ⟨.refl _, hu⟩
      | tail _ s ih => exact ⟨.tail ih.1 ((Tb.next_iff ih.2 _).1 s), ok.next_in ih.2 s⟩
    exact go.1
  · intro h
    have go : U.Rn u v ∧ v ∈ U.names := by
      induction h with
      | refl => exact ⟨.refl _, hu⟩
      | tail _ s ih =>
        have q := (Tb.next_iff ih.2 _).2 s
        exact ⟨.tail ih.1 q, ok.next_in ih.2 q⟩
    exact go.1
def Tb.pat (U : Tb) (ms : List Str) : Pat Str where
  dc x := x ∈ U.names ∧ U.decl x ms = true
  tr x := x ∈ U.names ∧ U.sworn x = true ∧ U.ans x ms = some true
theorem Tb.pat_ok (U : Tb) (ms : List Str) : (U.pat ms).Ok U.shape := by
  refine ⟨fun x h => ⟨h.1, ?_⟩, fun x h => ⟨h.1, h.2.1⟩, fun x h k => ?_⟩
  · have q := h.2
    unfold Tb.decl at q
    exact (Bool.and_eq_true_iff.mp q).1
  · have q := h.2
    unfold Tb.decl at q
    have q2 := of_decide_eq_true (Bool.and_eq_true_iff.mp q).2
    rw [k.2.2] at q2
    cases q2
theorem Tb.hl_iff {U : Tb} {c d : Str} (hc : c ∈ U.names) (hd : d ∈ U.names) (ok : U.Ok) (cl : U.Cls) (x : Str) : x ∈ U.hl c d ↔ hld U.shape c d x := by
  unfold Tb.hl hld Tb.shape
  rw [List.mem_append]
  have self : ∀ b ∈ U.names, b ∈ (U.cl b).line := fun b hb => (cl.line b hb b).2 (.inl rfl)
  constructor
  · rintro (h | h)
    · exact .inl (.inr ⟨hc, h⟩)
    · exact .inr (.inr ⟨hd, h⟩)
  · rintro ((h | h) | (h | h))
    · rw [h]; exact .inl (self c hc)
    · exact .inl h.2
    · rw [h]; exact .inr (self d hd)
    · exact .inr h.2
theorem Tb.Led_iff {U : Tb} (ok : U.Ok) (cl : U.Cls) {c d : Str} (hc : c ∈ U.names) (hd : d ∈ U.names) (ms : List Str) (x : Str) : U.Led (U.hl c d) ms c x ↔ Rch (stp U.shape U.R (U.pat ms).dc c d) c x := by
  have step : ∀ u ∈ U.names, ∀ v, v ∈ U.led (U.hl c d) ms u ↔ stp U.shape U.R (U.pat ms).dc c d u v := by
    intro u hu v
    unfold Tb.led stp Tb.nin
    constructor
    · intro h
      split at h
      · rename_i hq
        obtain ⟨h1, h2⟩ := List.mem_filter.mp h
        exact ⟨⟨hu, hq⟩, (Tb.next_iff hu v).1 h1, (Tb.hl_iff hc hd ok cl v).1 (List.contains_iff_mem.mp h2)⟩
      · cases h
    · rintro ⟨h1, h2, h3⟩
      rw [if_pos h1.2]
      exact List.mem_filter.mpr ⟨(Tb.next_iff hu v).2 h2, List.contains_iff_mem.mpr ((Tb.hl_iff hc hd ok cl v).2 h3)⟩
  have nin : ∀ u ∈ U.names, ∀ v ∈ U.led (U.hl c d) ms u, v ∈ U.names := by
    intro u hu v h
    unfold Tb.led at h
    split at h
    · exact ok.nin_in hu h
    · cases h
  constructor
  · intro h
    have go : Rch (stp U.shape U.R (U.pat ms).dc c d) c x ∧ x ∈ U.names := by
      induction h with
      | refl => exact ⟨.refl _, hc⟩
      | tail _ s ih => exact ⟨.tail ih.1 ((step _ ih.2 _).1 s), nin _ ih.2 _ s⟩
    exact go.1
  · intro h
    have go : U.Led (U.hl c d) ms c x ∧ x ∈ U.names := by
      induction h with
      | refl => exact ⟨.refl _, hc⟩
      | tail _ s ih =>
        have q := (step _ ih.2 _).2 s
        exact ⟨.tail ih.1 q, nin _ ih.2 _ q⟩
    exact go.1
theorem Tb.Led_in {U : Tb} (ok : U.Ok) {l ms : List Str} {c x : Str} (hc : c ∈ U.names) (h : U.Led l ms c x) : x ∈ U.names := by
  induction h with
  | refl => exact hc
  | tail _ s ih =>
    have q := s
    unfold Tb.led at q
    split at q
    · exact ok.nin_in ih q
    · cases q
theorem Tb.wins_iff {U : Tb} (ok : U.Ok) (cl : U.Cls) {c d : Str} (hc : c ∈ U.names) (hd : d ∈ U.names) {ms es : List Str} (he : ∀ x, x ∈ es ↔ U.Led (U.hl c d) ms c x) : U.wins es ms = true ↔ Won U.shape (U.pat ms) U.R c d := by
  unfold Tb.wins Won
  rw [List.any_eq_true]
  constructor
  · rintro ⟨x, hx, h⟩
    obtain ⟨h1, h2⟩ := Bool.and_eq_true_iff.mp h
    have hl := (he x).1 hx
    exact ⟨x, (Tb.Led_iff ok cl hc hd ms x).1 hl, Tb.Led_in ok hc hl, h1, of_decide_eq_true h2⟩
  · rintro ⟨x, hx, h⟩
    exact ⟨x, (he x).2 ((Tb.Led_iff ok cl hc hd ms x).2 hx), by rw [h.2.1, h.2.2]; rfl⟩
theorem Tb.reached_iff {U : Tb} (ok : U.Ok) (cl : U.Cls) {c d : Str} (hc : c ∈ U.names) (hd : d ∈ U.names) {ms es : List Str} (he : ∀ x, x ∈ es ↔ U.Led (U.hl c d) ms c x) : U.reached es d ms = true ↔ Rea U.shape (U.pat ms) U.R c d := by
  have hm : ∀ x, x ∈ es ↔ Rch (stp U.shape U.R (U.pat ms).dc c d) c x := fun x => (he x).trans (Tb.Led_iff ok cl hc hd ms x)
  unfold Tb.reached Rea
  by_cases hs : U.sworn d = true
  · rw [if_pos hs, Bool.and_eq_true, List.contains_iff_mem, hm d]
    constructor
    · rintro ⟨h1, h2⟩
      exact .inl ⟨⟨hd, hs⟩, h1, hd, h2⟩
    · rintro (⟨_, h1, h2⟩ | ⟨h, _⟩)
      · exact ⟨h1, h2.2⟩
      · exact absurd ⟨hd, hs⟩ h
  · rw [if_neg hs, List.any_eq_true]
    constructor
    · rintro ⟨x, hx, h⟩
      obtain ⟨h1, h2⟩ := Bool.and_eq_true_iff.mp h
      refine .inr ⟨fun z => hs z.2, x, (hm x).1 hx, fun z => ?_, .inr ⟨hd, List.contains_iff_mem.mp h2⟩⟩
      rw [z.2] at h1
      cases h1
    · rintro (⟨h, _⟩ | ⟨_, x, hx, h1, h2⟩)
      · exact absurd h.2 hs
      · have hx2 := (hm x).2 hx
        have hxn := Tb.Led_in ok hc ((he x).1 hx2)
        refine ⟨x, hx2, Bool.and_eq_true_iff.mpr ⟨?_, List.contains_iff_mem.mpr ?_⟩⟩
        · rw [Bool.not_eq_true', Bool.eq_false_iff]
          exact fun z => h1 ⟨hxn, z⟩
        · rcases h2 with e | e
          · rw [e]; exact (cl.line d hd d).2 (.inl rfl)
          · exact e.2
open Classical in
theorem Tb.led_list {U : Tb} (ok : U.Ok) {l ms : List Str} {c : Str} (hc : c ∈ U.names) : ∃ es : List Str, ∀ x, x ∈ es ↔ U.Led l ms c x :=
  ⟨U.names.filter fun x => decide (U.Led l ms c x), fun x => by
    rw [List.mem_filter, decide_eq_true_eq]
    exact ⟨fun h => h.2, fun h => ⟨Tb.Led_in ok hc h, h⟩⟩⟩
open Classical in
noncomputable def outV (M : Shape Str) (P : Pat Str) (R : Str → Str → Prop) (c d : Str) : L2.V := if Won M P R c d then .str "won" else if Rea M P R c d then .str "reached" else .str "neither"
theorem Tb.outc_iff {U : Tb} (ok : U.Ok) (cl : U.Cls) {c d : Str} (hc : c ∈ U.names) (hd : d ∈ U.names) (ms : List Str) (v : L2.V) : Outc U (U.hl c d) c d ms v ↔ (U.decl c ms = false ∧ v = .non) ∨ (U.decl c ms = true ∧ v = outV U.shape (U.pat ms) U.R c d) := by
  have key : ∀ es : List Str, (∀ x, x ∈ es ↔ U.Led (U.hl c d) ms c x) → (if U.wins es ms = true then L2.V.str "won" else if U.reached es d ms = true then .str "reached" else .str "neither") = outV U.shape (U.pat ms) U.R c d := by
    intro es he
    have h1 := Tb.wins_iff ok cl hc hd he
    have h2 := Tb.reached_iff ok cl hc hd he
    unfold outV
    by_cases a : U.wins es ms = true
    · rw [if_pos a, if_pos (h1.1 a)]
    · rw [if_neg a, if_neg (fun z => a (h1.2 z))]
      by_cases b : U.reached es d ms = true
      · rw [if_pos b, if_pos (h2.1 b)]
      · rw [if_neg b, if_neg (fun z => b (h2.2 z))]
  constructor
  · rintro (h | ⟨h1, es, he, hv⟩)
    · exact .inl h
    · exact .inr ⟨h1, by rw [hv]; exact key es he⟩
  · rintro (h | ⟨h1, hv⟩)
    · exact .inl h
    · obtain ⟨es, he⟩ := Tb.led_list (l := U.hl c d) (ms := ms) ok hc
      exact .inr ⟨h1, es, he, by rw [hv]; exact (key es he).symm⟩
theorem SameCl.shape {U1 U2 : Tb} (s : SameCl U1 U2) (ok : U1.Ok) : U2.shape = U1.shape := by
  unfold Tb.shape
  congr 1
  · funext x
    refine propext ⟨fun ⟨a, b⟩ => ?_, fun ⟨a, b⟩ => ?_⟩
    · rw [← s.nm] at a
      exact ⟨a, by rw [s.sworn ok a]; exact b⟩
    · exact ⟨by rw [← s.nm]; exact a, by rw [← s.sworn ok a]; exact b⟩
  · funext z b
    refine propext ⟨fun ⟨a, h⟩ => ?_, fun ⟨a, h⟩ => ?_⟩
    · rw [← s.nm] at a
      exact ⟨a, by rw [s.cl b a]; exact h⟩
    · exact ⟨by rw [← s.nm]; exact a, by rw [← s.cl b a]; exact h⟩
  · funext z b
    refine propext (or_congr Iff.rfl ⟨fun ⟨a, h⟩ => ?_, fun ⟨a, h⟩ => ?_⟩)
    · rw [← s.nm] at a
      exact ⟨a, by rw [s.cl b a]; exact h⟩
    · exact ⟨by rw [← s.nm]; exact a, by rw [← s.cl b a]; exact h⟩
theorem SameCl.along {U1 U2 : Tb} (s : SameCl U1 U2) (n : Str) : ∀ {l : List Str}, (∀ m ∈ l, m ∈ U1.names) → U1.hookAlong n l = U2.hookAlong n l
  | [], _ => rfl
  | m :: l, h => by
    have e := s.cl m (h m List.mem_cons_self)
    have ih := SameCl.along s n fun x hx => h x (List.mem_cons_of_mem _ hx)
    unfold Tb.hookAlong
    rw [← e, ih]
theorem SameCl.ans {U1 U2 : Tb} (s : SameCl U1 U2) (ok : U1.Ok) {n : Str} (hn : n ∈ U1.names) (ms : List Str) : U1.ans n ms = U2.ans n ms := by
  unfold Tb.ans Tb.hookFor
  rw [s.sworn ok hn, ← s.cl n hn, s.along n (ok.line n hn)]
theorem SameCl.decl {U1 U2 : Tb} (s : SameCl U1 U2) (ok : U1.Ok) {n : Str} (hn : n ∈ U1.names) (ms : List Str) : U1.decl n ms = U2.decl n ms := by
  unfold Tb.decl
  rw [s.sworn ok hn, s.ans ok hn]
theorem SameCl.pat {U1 U2 : Tb} (s : SameCl U1 U2) (ok : U1.Ok) (ms : List Str) : U2.pat ms = U1.pat ms := by
  unfold Tb.pat
  congr 1
  · funext x
    refine propext ⟨fun ⟨a, b⟩ => ?_, fun ⟨a, b⟩ => ?_⟩
    · rw [← s.nm] at a
      exact ⟨a, by rw [s.decl ok a]; exact b⟩
    · exact ⟨by rw [← s.nm]; exact a, by rw [← s.decl ok a]; exact b⟩
  · funext x
    refine propext ⟨fun ⟨a, b, c⟩ => ?_, fun ⟨a, b, c⟩ => ?_⟩
    · rw [← s.nm] at a
      exact ⟨a, by rw [s.sworn ok a]; exact b, by rw [s.ans ok a]; exact c⟩
    · exact ⟨by rw [← s.nm]; exact a, by rw [← s.sworn ok a]; exact b, by rw [← s.ans ok a]; exact c⟩
theorem outV_eq {M : Shape Str} {P : Pat Str} {R R' : Str → Str → Prop} {c d : Str} : outV M P R c d = outV M P R' c d ↔ (Won M P R c d ↔ Won M P R' c d) ∧ (¬ Won M P R c d → (Rea M P R c d ↔ Rea M P R' c d)) := by
  have n1 : L2.V.str "won" ≠ .str "reached" := fun z => by injection z with z; exact absurd z (by decide +kernel)
  have n2 : L2.V.str "won" ≠ .str "neither" := fun z => by injection z with z; exact absurd z (by decide +kernel)
  have n3 : L2.V.str "reached" ≠ .str "neither" := fun z => by injection z with z; exact absurd z (by decide +kernel)
  unfold outV
  by_cases a : Won M P R c d <;> by_cases b : Won M P R' c d <;> by_cases e : Rea M P R c d <;> by_cases f : Rea M P R' c d <;> simp [a, b, e, f, n1, n2, n3, n1.symm, n2.symm, n3.symm]
end Sw
set_option linter.all false
set_option maxHeartbeats 2000000
/-! States of tables by the abstract plain law; leaving out what is needless, one by one. -/
namespace Sw
open PySem
theorem Tb.Rd_iff {U : Tb} (ok : U.Ok) (cl : U.Cls) {c d : Str} (hc : c ∈ U.names) (hd : d ∈ U.names) (x : Str) : U.Rd (U.hl c d) c x ↔ Rch (stp U.shape U.R (fun _ => True) c d) c x := by
  have step : ∀ u ∈ U.names, ∀ v, v ∈ U.nin (U.hl c d) u ↔ stp U.shape U.R (fun _ => True) c d u v := by
    intro u hu v
    unfold stp Tb.nin
    constructor
    · intro h
      obtain ⟨h1, h2⟩ := List.mem_filter.mp h
      exact ⟨trivial, (Tb.next_iff hu v).1 h1, (Tb.hl_iff hc hd ok cl v).1 (List.contains_iff_mem.mp h2)⟩
    · rintro ⟨_, h2, h3⟩
      exact List.mem_filter.mpr ⟨(Tb.next_iff hu v).2 h2, List.contains_iff_mem.mpr ((Tb.hl_iff hc hd ok cl v).2 h3)⟩
  constructor
  · intro h
    have go : Rch (stp U.shape U.R (fun _ => True) c d) c x ∧ x ∈ U.names := by
      induction h with
      | refl => exact ⟨.refl _, hc⟩
      | tail _ s ih => exact ⟨.tail ih.1 ((step _ ih.2 _).1 s), ok.nin_in ih.2 s⟩
    exact go.1
  · intro h
    have go : U.Rd (U.hl c d) c x ∧ x ∈ U.names := by
      induction h with
      | refl => exact ⟨.refl _, hc⟩
      | tail _ s ih =>
        have q := (step _ ih.2 _).2 s
        exact ⟨.tail ih.1 q, ok.nin_in ih.2 q⟩
    exact go.1
/-! ### patterns -/
theorem pats_sub {ms p : List Str} (h : p ∈ patsOf ms) : ∀ m ∈ p, m ∈ ms := by
  have go : ∀ (ms : List Str) (ps : List (List Str)) (S : Str → Prop), (∀ p ∈ ps, ∀ m ∈ p, S m) → (∀ m ∈ ms, S m) → ∀ p ∈ ms.foldl (fun ps m => ps ++ ps.map (· ++ [m])) ps, ∀ m ∈ p, S m := by
    intro ms
    induction ms with
    | nil => intro ps S h _ p hp; exact h p hp
    | cons m ms ih =>
      intro ps S h hs p hp
      rw [List.foldl_cons] at hp
      refine ih _ S (fun p hp x hx => ?_) (fun x hx => hs x (List.mem_cons_of_mem _ hx)) p hp
      rcases List.mem_append.mp hp with z | z
      · exact h p z x hx
      · obtain ⟨r, hr, rfl⟩ := List.mem_map.mp z
        rcases List.mem_append.mp hx with w | w
        · exact h r hr x w
        · rw [List.mem_singleton.mp w]; exact hs m List.mem_cons_self
  exact go ms [[]] (· ∈ ms) (fun p hp m hm => by rw [List.mem_singleton.mp hp] at hm; cases hm) (fun m hm => hm) p h
theorem pats_all (S : Str → Prop) : ∀ ms : List Str, ∃ p ∈ patsOf ms, ∀ m, m ∈ p ↔ m ∈ ms ∧ S m := by
  have go : ∀ (ms : List Str) (ps : List (List Str)) (p0 : List Str), p0 ∈ ps → ∃ p ∈ ms.foldl (fun ps m => ps ++ ps.map (· ++ [m])) ps, ∀ m, m ∈ p ↔ m ∈ p0 ∨ m ∈ ms ∧ S m := by
    intro ms
    induction ms with
    | nil => intro ps p0 h; exact ⟨p0, h, fun m => ⟨.inl, fun z => z.elim id fun q => by cases q.1⟩⟩
    | cons a ms ih =>
      intro ps p0 h
      rw [List.foldl_cons]
      rcases Classical.em (S a) with sa | sa
      · obtain ⟨p, hp, h2⟩ := ih (ps ++ ps.map (· ++ [a])) (p0 ++ [a]) (List.mem_append_right _ (List.mem_map.mpr ⟨p0, h, rfl⟩))
        refine ⟨p, hp, fun m => (h2 m).trans ?_⟩
        rw [List.mem_append, List.mem_singleton, List.mem_cons]
        constructor
        · rintro ((z | z) | z)
          · exact .inl z
          · exact .inr ⟨.inl z, by rw [z]; exact sa⟩
          · exact .inr ⟨.inr z.1, z.2⟩
        · rintro (z | ⟨z | z, s⟩)
          · exact .inl (.inl z)
          · exact .inl (.inr z)
          · exact .inr ⟨z, s⟩
      · obtain ⟨p, hp, h2⟩ := ih (ps ++ ps.map (· ++ [a])) p0 (List.mem_append_left _ h)
        refine ⟨p, hp, fun m => (h2 m).trans ?_⟩
        rw [List.mem_cons]
        constructor
        · rintro (z | z)
          · exact .inl z
          · exact .inr ⟨.inr z.1, z.2⟩
        · rintro (z | ⟨z | z, s⟩)
          · exact .inl z
          · rw [z] at s; exact absurd s sa
          · exact .inr ⟨z, s⟩
  intro ms
  obtain ⟨p, hp, h⟩ := go ms [[]] [] (by simp)
  exact ⟨p, hp, fun m => (h m).trans ⟨fun z => z.elim (fun q => by cases q) id, .inr⟩⟩
theorem pat_congr (U : Tb) {ms ms' : List Str} (h : ∀ m, m ∈ ms ↔ m ∈ ms') : U.pat ms = U.pat ms' := by
  have e : ms.contains = ms'.contains := funext fun x => Bool.eq_iff_iff.mpr (by rw [List.contains_iff_mem, List.contains_iff_mem]; exact h x)
  have e2 : ∀ hk : Hook, hookAns hk ms = hookAns hk ms' := fun hk => by unfold hookAns; rw [e]
  have e3 : ∀ x, U.ans x ms = U.ans x ms' := fun x => by
    unfold Tb.ans
    rw [show (fun h => hookAns h ms) = fun h => hookAns h ms' from funext e2]
  have e4 : ∀ x, U.decl x ms = U.decl x ms' := fun x => by unfold Tb.decl; rw [e3]
  unfold Tb.pat
  congr 1
  · funext x; rw [e4]
  · funext x; rw [e3]
/-- the patterns that count -/
def Tb.Ps (U : Tb) (P : Pat Str) : Prop := ∃ ms, (∀ m ∈ ms, U.meth m) ∧ P = U.pat ms
theorem Tb.Ps_ok (U : Tb) : ∀ P, U.Ps P → P.Ok U.shape := by
  rintro P ⟨ms, _, rfl⟩
  exact U.pat_ok ms
theorem Tb.Ps_in {U : Tb} {ps : List (List Str)} (h : PsOk U ps) {P : Pat Str} (hP : U.Ps P) : ∃ p ∈ ps, P = U.pat p := by
  obtain ⟨ms, hm, rfl⟩ := h
  obtain ⟨l, hl, rfl⟩ := hP
  obtain ⟨p, hp, h2⟩ := pats_all (· ∈ l) ms
  refine ⟨p, hp, pat_congr U fun m => ?_⟩
  rw [h2 m]
  exact ⟨fun z => ⟨(hm m).2 (hl m z), z⟩, fun z => z.2⟩
theorem Tb.Ps_of {U : Tb} {ps : List (List Str)} (h : PsOk U ps) {p : List Str} (hp : p ∈ ps) : U.Ps (U.pat p) := by
  obtain ⟨ms, hm, rfl⟩ := h
  exact ⟨p, fun m hmp => (hm m).1 (pats_sub hp m hmp), rfl⟩
/-! ### the same classes -/
theorem SameCl.symm {U1 U2 : Tb} (s : SameCl U1 U2) : SameCl U2 U1 := ⟨s.nm.symm, fun n hn => (s.cl n (by rw [s.nm]; exact hn)).symm⟩
theorem SameCl.refl (U : Tb) : SameCl U U := ⟨rfl, fun _ _ => rfl⟩
theorem SameCl.trans {U1 U2 U3 : Tb} (s : SameCl U1 U2) (t : SameCl U2 U3) : SameCl U1 U3 := ⟨s.nm.trans t.nm, fun n hn => (s.cl n hn).trans (t.cl n (by rw [← s.nm]; exact hn))⟩
theorem SameCl.rem (U : Tb) (a b : Str) : SameCl (U.rem a b) U := ⟨rfl, fun _ _ => rfl⟩
theorem SameCl.meth {U1 U2 : Tb} (s : SameCl U1 U2) (m : Str) : U1.meth m ↔ U2.meth m := by
  constructor
  · rintro ⟨n, hn, h⟩
    exact ⟨n, by rw [← s.nm]; exact hn, by rw [← s.cl n hn]; exact h⟩
  · rintro ⟨n, hn, h⟩
    rw [← s.nm] at hn
    exact ⟨n, hn, by rw [s.cl n hn]; exact h⟩
theorem SameCl.psok {U1 U2 : Tb} (s : SameCl U1 U2) {ps : List (List Str)} (h : PsOk U1 ps) : PsOk U2 ps := by
  obtain ⟨ms, hm, e⟩ := h
  exact ⟨ms, fun m => (hm m).trans (s.meth m), e⟩
theorem SameCl.cls {U1 U2 : Tb} (s : SameCl U1 U2) (ok : U1.Ok) (c : U1.Cls) : U2.Cls := by
  obtain ⟨rk, hrk⟩ := c.rank
  refine ⟨fun b hb z => ?_, rk, fun b hb p hp => ?_⟩
  · rw [← s.nm] at hb
    rw [← s.cl b hb, c.line b hb z]
    exact or_congr Iff.rfl ⟨fun ⟨p, h1, h2⟩ => ⟨p, h1, by rw [← s.cl p (ok.pin b hb p h1)]; exact h2⟩, fun ⟨p, h1, h2⟩ => ⟨p, h1, by rw [s.cl p (ok.pin b hb p h1)]; exact h2⟩⟩
  · rw [← s.nm] at hb
    rw [← s.cl b hb] at hp
    exact hrk b hb p hp
theorem SameCl.Ps {U1 U2 : Tb} (s : SameCl U1 U2) (ok : U1.Ok) : U2.Ps = U1.Ps := by
  funext P
  refine propext ⟨fun ⟨ms, h, e⟩ => ⟨ms, fun m hm => (s.meth m).2 (h m hm), e.trans (s.pat ok ms)⟩, fun ⟨ms, h, e⟩ => ⟨ms, fun m hm => (s.meth m).1 (h m hm), e.trans (s.pat ok ms).symm⟩⟩
theorem same_iff {U1 U2 : Tb} (s : SameCl U1 U2) (ok1 : U1.Ok) (ok2 : U2.Ok) (cl : U1.Cls) {ps : List (List Str)} (hps : PsOk U1 ps) {c d : Str} (hc : c ∈ U1.names) (hd : d ∈ U1.names) :
    SameSt U1 U2 c d ps ↔ Eqv U1.shape U1.Ps U1.R U2.R c d := by
  have hc2 : c ∈ U2.names := by rw [← s.nm]; exact hc
  have hd2 : d ∈ U2.names := by rw [← s.nm]; exact hd
  have cl2 := s.cls ok1 cl
  have sh := s.shape ok1
  have road : ∀ {U : Tb} (ok : U.Ok) (cl : U.Cls) (hc : c ∈ U.names) (hd : d ∈ U.names), (U.sworn d = true ∧ U.Rd (U.hl c d) c d) ↔ Road U.shape U.R c d := by
    intro U ok cl hc hd
    unfold Road
    rw [Tb.Rd_iff ok cl hc hd d]
    exact and_congr ⟨fun h => ⟨hd, h⟩, fun h => h.2⟩ Iff.rfl
  constructor
  · intro h
    refine ⟨fun P hP hdc => ?_, ?_⟩
    · obtain ⟨p, hp, rfl⟩ := Tb.Ps_in hps hP
      have q := h.out p hp (outV U1.shape (U1.pat p) U1.R c d)
      rw [Tb.outc_iff ok1 cl hc hd p, Tb.outc_iff ok2 cl2 hc2 hd2 p] at q
      have h1 : U1.decl c p = true := hdc.2
      have h2 : U2.decl c p = true := by rw [← s.decl ok1 hc]; exact h1
      rcases q.1 (.inr ⟨h1, rfl⟩) with ⟨z, _⟩ | ⟨_, z⟩
      · rw [h2] at z; cases z
      · rw [sh, s.pat ok1] at z
        exact outV_eq.1 z
    · have q := h.road
      rw [road ok1 cl hc hd, road ok2 cl2 hc2 hd2, sh] at q
      exact q
  · intro h
    refine ⟨fun p hp v => ?_, ?_⟩
    · rw [Tb.outc_iff ok1 cl hc hd p, Tb.outc_iff ok2 cl2 hc2 hd2 p, ← s.decl ok1 hc, sh, s.pat ok1]
      refine or_congr Iff.rfl (and_congr_right fun h1 => ?_)
      rw [outV_eq.2 (h.1 (U1.pat p) (Tb.Ps_of hps hp) ⟨hc, h1⟩)]
    · rw [road ok1 cl hc hd, road ok2 cl2 hc2 hd2, sh]
      exact h.2
theorem Tb.rem_R {U : Tb} (ok : U.Ok) (a b : Str) : (U.rem a b).R = wo U.R a b := by
  funext u v
  refine propext ?_
  show (u ∈ U.names ∧ v ∈ (if u = a then (U.ls u).erase b else U.ls u)) ↔ (u ∈ U.names ∧ v ∈ U.ls u) ∧ ¬ (u = a ∧ v = b)
  by_cases e : u = a
  · rw [if_pos e]
    constructor
    · rintro ⟨h1, h2⟩
      rw [(ok.lnd u h1).mem_erase_iff] at h2
      exact ⟨⟨h1, h2.2⟩, fun z => h2.1 z.2⟩
    · rintro ⟨⟨h1, h2⟩, h3⟩
      exact ⟨h1, (ok.lnd u h1).mem_erase_iff.2 ⟨fun z => h3 ⟨e, z⟩, h2⟩⟩
  · rw [if_neg e]
    exact ⟨fun h => ⟨h, fun z => e z.1⟩, fun h => h.1⟩
theorem Tb.regs_iff {U : Tb} {pr : Str × Str} : pr ∈ U.regs ↔ U.R pr.1 pr.2 := by
  constructor
  · exact fun h => regs_mem h
  · rintro ⟨h1, h2⟩
    exact List.mem_flatMap.mpr ⟨pr.1, h1, List.mem_map.mpr ⟨pr.2, h2, rfl⟩⟩
/-- needless, by the abstract law -/
theorem Tb.ndl_eqv {U : Tb} (ok : U.Ok) (cl : U.Cls) {ps : List (List Str)} (hps : PsOk U ps) {pr : Str × Str} (h : pr ∈ U.regs) : U.ndl ps pr = true ↔ Eqv U.shape U.Ps (wo U.R pr.1 pr.2) U.R pr.1 pr.2 := by
  obtain ⟨h1, h2⟩ := regs_mem h
  have s := SameCl.rem U pr.1 pr.2
  rw [Tb.ndl_iff, same_iff s (ok.rem _ _) ok (s.symm.cls ok cl) (s.symm.psok hps) h1 (ok.reg _ h1 _ h2), Tb.rem_R ok]
  have e1 : (U.rem pr.1 pr.2).shape = U.shape := s.symm.shape ok
  have e2 : (U.rem pr.1 pr.2).Ps = U.Ps := s.symm.Ps ok
  rw [e1, e2]
theorem Tb.nd_regs {U : Tb} (ok : U.Ok) : U.regs.Nodup := by
  unfold Tb.regs
  have go : ∀ l : List Str, l.Nodup → (∀ n ∈ l, n ∈ U.names) → (l.flatMap fun n => (U.ls n).map fun o => (n, o)).Nodup := by
    intro l
    induction l with
    | nil => intro _ _; exact List.nodup_nil
    | cons a l ih =>
      intro hn hi
      obtain ⟨h1, h2⟩ := List.nodup_cons.mp hn
      rw [List.flatMap_cons, List.nodup_append]
      refine ⟨?_, ih h2 fun n h => hi n (List.mem_cons_of_mem _ h), fun x hx y hy z => ?_⟩
      · have q := ok.lnd a (hi a List.mem_cons_self)
        unfold List.Nodup at q ⊢
        rw [List.pairwise_map]
        exact q.imp fun h z => h (Prod.mk.inj z).2
      · obtain ⟨o, _, rfl⟩ := List.mem_map.mp hx
        obtain ⟨n, hn2, h3⟩ := List.mem_flatMap.mp hy
        obtain ⟨o2, _, e⟩ := List.mem_map.mp h3
        rw [← e] at z
        exact h1 (by rw [(Prod.mk.inj z).1]; exact hn2)
  exact go U.names ok.nd fun _ h => h
theorem erase_map_pair (n b : Str) (l : List Str) : (l.map fun o => (n, o)).erase (n, b) = (l.erase b).map fun o => (n, o) := by
  induction l with
  | nil => rfl
  | cons a l ih =>
    rw [List.map_cons]
    by_cases h : a = b
    · subst h; simp
    · rw [List.erase_cons_tail (by simpa using h), List.erase_cons_tail (by simpa using h), List.map_cons, ih]
theorem Tb.regs_rem {U : Tb} (ok : U.Ok) {a b : Str} (ha : a ∈ U.names) (hb : b ∈ U.ls a) : (U.rem a b).regs = U.regs.erase (a, b) := by
  have go : ∀ l : List Str, l.Nodup → (l.flatMap fun n => (if n = a then (U.ls n).erase b else U.ls n).map fun o => (n, o)) = if a ∈ l then (l.flatMap fun n => (U.ls n).map fun o => (n, o)).erase (a, b) else l.flatMap fun n => (U.ls n).map fun o => (n, o) := by
    intro l
    induction l with
    | nil => intro _; rfl
    | cons n l ih =>
      intro hn
      obtain ⟨h1, h2⟩ := List.nodup_cons.mp hn
      rw [List.flatMap_cons, List.flatMap_cons, ih h2]
      by_cases e : n = a
      · subst e
        rw [if_pos rfl, if_neg h1, if_pos List.mem_cons_self, List.erase_append_left _ (List.mem_map.mpr ⟨b, hb, rfl⟩), erase_map_pair]
      · rw [if_neg e]
        by_cases hal : a ∈ l
        · rw [if_pos hal, if_pos (List.mem_cons_of_mem _ hal), List.erase_append_right]
          intro z
          obtain ⟨o, _, q⟩ := List.mem_map.mp z
          exact e (Prod.mk.inj q).1
        · rw [if_neg hal, if_neg (fun z => (List.mem_cons.mp z).elim (fun q => e q.symm) hal)]
  have q := go U.names ok.nd
  rw [if_pos ha] at q
  exact q
/-- a world on the way: U the first, V the one here -/
structure Way (U V : Tb) : Prop where
  ok : V.Ok
  sc : SameCl V U
  cl : V.Cls
  ac : Acyc V.shape V.R
  same : ∀ c d, Eqv V.shape V.Ps V.R U.R c d
  sub : ∀ u v, V.R u v → U.R u v
  ker : ∀ ps ps', PsOk V ps → PsOk U ps' → V.regs.filter (fun pr => !V.ndl ps pr) = U.regs.filter fun pr => !U.ndl ps' pr
theorem Tb.ndl_ps {U : Tb} (ok : U.Ok) (cl : U.Cls) {ps ps' : List (List Str)} (h : PsOk U ps) (h' : PsOk U ps') {pr : Str × Str} (hr : pr ∈ U.regs) : U.ndl ps pr = U.ndl ps' pr := by
  rw [Bool.eq_iff_iff, Tb.ndl_eqv ok cl h hr, Tb.ndl_eqv ok cl h' hr]
theorem Way.start {U : Tb} (ok : U.Ok) (cl : U.Cls) (ac : Acyc U.shape U.R) : Way U U :=
  ⟨ok, SameCl.refl U, cl, ac, fun _ _ => Eqv.refl, fun _ _ h => h, fun ps ps' h h' => List.filter_congr fun pr hp => by rw [Tb.ndl_ps ok cl h h' hp]⟩
theorem Way.st {U V : Tb} (okU : U.Ok) (w : Way U V) {ps : List (List Str)} (hps : PsOk V ps) {c d : Str} (hc : c ∈ V.names) (hd : d ∈ V.names) : SameSt V U c d ps := (same_iff w.sc w.ok okU w.cl hps hc hd).2 (w.same c d)
theorem Way.step {U V : Tb} (w : Way U V) {ps : List (List Str)} (hps : PsOk V ps) {pr : Str × Str} (hr : pr ∈ V.regs) (hn : V.ndl ps pr = true) :
    Way U (V.rem pr.1 pr.2) ∧ ∀ ps', PsOk (V.rem pr.1 pr.2) ps' → ((V.rem pr.1 pr.2).regs.filter ((V.rem pr.1 pr.2).ndl ps')).length + 1 = (V.regs.filter (V.ndl ps)).length := by
  obtain ⟨h1, h2⟩ := regs_mem hr
  have s := SameCl.rem V pr.1 pr.2
  have ok' := w.ok.rem pr.1 pr.2
  have cl' := s.symm.cls w.ok w.cl
  have eR := Tb.rem_R w.ok pr.1 pr.2
  have eS : (V.rem pr.1 pr.2).shape = V.shape := s.symm.shape w.ok
  have eP : (V.rem pr.1 pr.2).Ps = V.Ps := s.symm.Ps w.ok
  have he := (Tb.ndl_eqv w.ok w.cl hps hr).1 hn
  have hk := w.cl.ok w.ok
  have eg := Tb.regs_rem w.ok h1 h2
  have nd := Tb.nd_regs w.ok
  have key : ∀ ps', PsOk (V.rem pr.1 pr.2) ps' → ∀ q ∈ V.regs.erase pr, (V.rem pr.1 pr.2).ndl ps' q = V.ndl ps q := by
    intro ps' hps' q hq
    obtain ⟨hq1, hq2⟩ := nd.mem_erase_iff.1 hq
    have hq3 : q ∈ (V.rem pr.1 pr.2).regs := by rw [eg]; exact hq
    rw [Bool.eq_iff_iff, Tb.ndl_eqv ok' cl' hps' hq3, Tb.ndl_eqv w.ok w.cl hps hq2, eR, eS, eP]
    refine needless_iff hk V.Ps_ok w.ac ?_ he
    rintro ⟨z1, z2⟩
    exact hq1 (Prod.ext z1.symm z2.symm)
  refine ⟨⟨ok', s.trans w.sc, cl', ?_, fun c d => ?_, fun u v h => ?_, fun ps1 ps2 k1 k2 => ?_⟩, fun ps' hps' => ?_⟩
  · rw [eS, eR]
    exact w.ac.sub wo_le
  · rw [eS, eP, eR]
    exact (keep_all hk V.Ps_ok he c d).trans (w.same c d)
  · rw [eR] at h
    exact w.sub u v h.1
  · rw [← w.ker ps ps2 hps k2, eg, List.filter_congr (q := fun pr => !V.ndl ps pr) (fun q hq => by rw [key ps1 k1 q hq])]
    rw [nd.erase_eq_filter, List.filter_filter]
    refine List.filter_congr fun q hq => ?_
    by_cases e : q = pr
    · subst e; rw [hn]; rfl
    · have : (q != pr) = true := by simpa using e
      rw [this, Bool.and_true]
  · rw [eg, List.filter_congr (fun q hq => key ps' hps' q hq)]
    have hm : pr ∈ V.regs.filter (V.ndl ps) := List.mem_filter.mpr ⟨hr, hn⟩
    have e : (V.regs.erase pr).filter (V.ndl ps) = (V.regs.filter (V.ndl ps)).erase pr := by
      rw [nd.erase_eq_filter, (show (V.regs.filter (V.ndl ps)).Nodup from nd.filter _).erase_eq_filter, List.filter_filter, List.filter_filter]
      exact List.filter_congr fun q _ => Bool.and_comm ..
    rw [e, List.length_erase_of_mem hm]
    have := List.length_pos_of_mem hm
    omega
/-- in the end: what is listed is the first world's kernel -/
theorem Way.end_ {U V : Tb} (w : Way U V) {ps ps' : List (List Str)} (hps : PsOk V ps) (hps' : PsOk U ps') (h : V.regs.filter (V.ndl ps) = []) : V.regs = U.regs.filter fun pr => !U.ndl ps' pr := by
  rw [← w.ker ps ps' hps hps']
  refine (List.filter_eq_self.mpr fun q hq => ?_).symm
  cases e : V.ndl ps q with
  | false => rfl
  | true =>
    have : q ∈ V.regs.filter (V.ndl ps) := List.mem_filter.mpr ⟨hq, e⟩
    rw [h] at this
    cases this
end Sw
set_option linter.all false
set_option maxRecDepth 100000
set_option maxHeartbeats 4000000
/-! What the drawn worlds keep. -/
namespace Sw
open PySem PySem.Spec PyProof.Rows L2 LamX
theorem any_cg {α : Type} {f g : α → Bool} : ∀ {l : List α}, (∀ x ∈ l, f x = g x) → l.any f = l.any g
  | [], _ => rfl
  | a :: l, h => by rw [List.any_cons, List.any_cons, h a List.mem_cons_self, any_cg fun x hx => h x (List.mem_cons_of_mem _ hx)]
theorem NewCl.congr {U V : Tb} {n : Str} {c : Cl} (ok : U.Ok) (s : SameCl U V) (N : NewCl U n c) : NewCl V n c := by
  refine ⟨N.nm, by rw [← s.nm]; exact N.new, fun p hp => by rw [← s.nm]; exact N.pin p hp, N.pnd, N.psz, N.mks, N.mkd, fun h hh => ⟨(N.hk h hh).1, ?_⟩, ?_⟩
  · rw [← any_cg (f := U.sworn) (g := V.sworn) fun p hp => s.sworn ok (N.pin p hp)]
    exact (N.hk h hh).2
  · obtain ⟨r, h1, h2⟩ := N.ln
    refine ⟨r, h1, ?_⟩
    rw [← List.map_congr_left (f := fun p => (U.cl p).line) (g := fun p => (V.cl p).line) fun p hp => by rw [s.cl p (N.pin p hp)]]
    exact h2
def Tb.pre (U : Tb) (i : Nat) : Tb := ⟨U.names.take i, U.cl, fun _ => []⟩
structure Bare (U : Tb) : Prop where
  ok : U.Ok
  nc : ∀ (i : Nat) n, U.names[i]? = some n → NewCl (U.pre i) n (U.cl n)
theorem mem_take {l : List Str} {i : Nat} {x : Str} (h : x ∈ l.take i) : ∃ j : Nat, j < i ∧ l[j]? = some x := by
  obtain ⟨j, hj, e⟩ := List.mem_iff_getElem.mp h
  rw [List.length_take] at hj
  rw [List.getElem_take] at e
  exact ⟨j, by omega, by rw [List.getElem?_eq_getElem (by omega), e]⟩
theorem take_mem {l : List Str} {i j : Nat} {x : Str} (h : l[j]? = some x) (hj : j < i) : x ∈ l.take i := by
  obtain ⟨hl, e⟩ := List.getElem?_eq_some_iff.mp h
  exact List.mem_iff_getElem.mpr ⟨j, by rw [List.length_take]; omega, by rw [List.getElem_take]; exact e⟩
theorem Bare.line_in {U : Tb} (B : Bare U) : ∀ (k j : Nat), j < k → ∀ n, U.names[j]? = some n → ∀ m ∈ (U.cl n).line, m ∈ U.names.take (j + 1) := by
  intro k
  induction k with
  | zero => intro j h; omega
  | succ k ih =>
    intro j hj n hn m hm
    have N := B.nc j n hn
    obtain ⟨r, h1, h2⟩ := N.ln
    rw [h1] at hm
    rcases List.mem_cons.mp hm with e | e
    · rw [e]; exact take_mem hn (Nat.lt_succ_self _)
    · obtain ⟨l, hl, hml⟩ := (mrg_mem h2 m).1 e
      rcases List.mem_append.mp hl with q | q
      · obtain ⟨p, hp, rfl⟩ := List.mem_map.mp q
        obtain ⟨j2, hj2, e2⟩ := mem_take (N.pin p hp)
        obtain ⟨j3, hj3, e3⟩ := mem_take (ih j2 (by omega) p e2 m hml)
        exact take_mem e3 (by omega)
      · rw [List.mem_singleton.mp q] at hml
        obtain ⟨j3, hj3, e3⟩ := mem_take (N.pin m hml)
        exact take_mem e3 (by omega)
theorem Bare.pre_ok {U : Tb} (B : Bare U) (i : Nat) : (U.pre i).Ok := by
  have mt : ∀ {n : Str}, n ∈ U.names.take i → n ∈ U.names := fun h => List.mem_of_mem_take h
  refine ⟨B.ok.nd.sublist (List.take_sublist ..), Nat.le_trans (List.length_take_le' ..) B.ok.sz, fun n hn m hm => ?_, fun n hn => B.ok.lsz n (mt hn), fun n hn => B.ok.psz n (mt hn), fun n hn m hm => ?_, fun n hn => Nat.zero_le _, fun n hn m hm => (by cases hm), fun n hn => List.nodup_nil, fun n hn => B.ok.nms n (mt hn), fun n hn => B.ok.mth n (mt hn), fun n hn => B.ok.mrk n (mt hn), fun n hn => B.ok.mkd n (mt hn), fun n hn => B.ok.hsz n (mt hn)⟩
  · obtain ⟨j, hj, e⟩ := mem_take hn
    obtain ⟨j2, hj2, e2⟩ := mem_take (B.line_in _ j (Nat.lt_succ_self _) n e m hm)
    exact take_mem e2 (by omega)
  · obtain ⟨j, hj, e⟩ := mem_take hn
    obtain ⟨j2, hj2, e2⟩ := mem_take ((B.nc j n e).pin m hm)
    exact take_mem e2 (by omega)
theorem Bare.line {U : Tb} (B : Bare U) {n : Str} (hn : n ∈ U.names) : ∃ r, (U.cl n).line = n :: r ∧ (n :: r).Nodup := by
  obtain ⟨i, hi, e⟩ := List.mem_iff_getElem.mp hn
  have e' : U.names[i]? = some n := by rw [List.getElem?_eq_getElem hi, e]
  have N := B.nc i n e'
  obtain ⟨r, h1, h2⟩ := N.ln
  refine ⟨r, h1, List.nodup_cons.mpr ⟨fun hm => ?_, mrg_nd h2⟩⟩
  have hin : n ∈ U.names.take i := by
    obtain ⟨l, hl, hml⟩ := (mrg_mem h2 n).1 hm
    rcases List.mem_append.mp hl with q | q
    · obtain ⟨p, hp, rfl⟩ := List.mem_map.mp q
      exact (B.pre_ok i).line p (N.pin p hp) n hml
    · rw [List.mem_singleton.mp q] at hml
      exact N.pin n hml
  exact N.new hin
theorem Bare.cls {U : Tb} (B : Bare U) : U.Cls := by
  have self : ∀ z ∈ U.names, z ∈ (U.cl z).line := fun z hz => by
    obtain ⟨r, h, _⟩ := B.line hz
    rw [h]; exact List.mem_cons_self
  refine ⟨fun b hb z => ?_, ?_⟩
  · obtain ⟨i, hi, e⟩ := List.mem_iff_getElem.mp hb
    have N := B.nc i b (by rw [List.getElem?_eq_getElem hi, e])
    obtain ⟨r, h1, h2⟩ := N.ln
    rw [h1, List.mem_cons, mrg_mem h2 z]
    refine or_congr Iff.rfl ⟨?_, ?_⟩
    · rintro ⟨l, hl, hz⟩
      rcases List.mem_append.mp hl with q | q
      · obtain ⟨p, hp, rfl⟩ := List.mem_map.mp q
        exact ⟨p, hp, hz⟩
      · rw [List.mem_singleton.mp q] at hz
        exact ⟨z, hz, self z (B.ok.pin b hb z hz)⟩
    · rintro ⟨p, hp, hz⟩
      exact ⟨_, List.mem_append_left _ (List.mem_map.mpr ⟨p, hp, rfl⟩), hz⟩
  · have ex : ∀ x, ∃ i : Nat, x ∈ U.names → U.names[i]? = some x := fun x => by
      by_cases h : x ∈ U.names
      · obtain ⟨i, hi, e⟩ := List.mem_iff_getElem.mp h
        exact ⟨i, fun _ => by rw [List.getElem?_eq_getElem hi, e]⟩
      · exact ⟨0, fun z => absurd z h⟩
    refine ⟨fun x => Classical.choose (ex x), fun b hb p hp => ?_⟩
    have h1 := Classical.choose_spec (ex b) hb
    have h2 := Classical.choose_spec (ex p) (B.ok.pin b hb p hp)
    obtain ⟨j, hj, e⟩ := mem_take ((B.nc _ b h1).pin p hp)
    have hjl : j < U.names.length := (List.getElem?_eq_some_iff.mp e).1
    have := (List.getElem?_inj hjl B.ok.nd).mp (e.trans h2.symm)
    show Classical.choose (ex p) < Classical.choose (ex b)
    omega
theorem add_same {U : Tb} {n : Str} {c : Cl} (hn : n ∉ U.names) (i : Nat) (hi : i ≤ U.names.length) : SameCl (U.pre i) ((U.add n c).pre i) := by
  refine ⟨?_, fun m hm => ?_⟩
  · show U.names.take i = (U.names ++ [n]).take i
    rw [List.take_append_of_le_length hi]
  · show U.cl m = if m = n then c else U.cl m
    rw [if_neg fun e => hn (by rw [← e]; exact List.mem_of_mem_take hm)]
theorem Tb.add_cl {U : Tb} {n m : Str} {c : Cl} (h : m ≠ n) : (U.add n c).cl m = U.cl m := if_neg h
theorem Tb.add_new {U : Tb} {n : Str} {c : Cl} : (U.add n c).cl n = c := if_pos rfl
theorem Bare.new_line {U : Tb} (ok : U.Ok) {n : Str} {c : Cl} (N : NewCl U n c) : ∃ r, c.line = n :: r ∧ (n :: r).Nodup ∧ ∀ m ∈ r, m ∈ U.names := by
  obtain ⟨r, h1, h2⟩ := N.ln
  have hin : ∀ m ∈ r, m ∈ U.names := fun m hm => by
    obtain ⟨l, hl, hml⟩ := (mrg_mem h2 m).1 hm
    rcases List.mem_append.mp hl with q | q
    · obtain ⟨p, hp, rfl⟩ := List.mem_map.mp q
      exact ok.line p (N.pin p hp) m hml
    · rw [List.mem_singleton.mp q] at hml
      exact N.pin m hml
  exact ⟨r, h1, List.nodup_cons.mpr ⟨fun hm => N.new (hin n hm), mrg_nd h2⟩, hin⟩
theorem Tb.Ok.add {U : Tb} (ok : U.Ok) {n : Str} {c : Cl} (N : NewCl U n c) (hz : U.names.length < 20) : (U.add n c).Ok := by
  obtain ⟨r, h1, h2, h3⟩ := Bare.new_line ok N
  have sp : ∀ m ∈ (U.add n c).names, (m ∈ U.names ∧ (U.add n c).cl m = U.cl m ∧ (U.add n c).ls m = U.ls m) ∨ (m = n ∧ (U.add n c).cl m = c ∧ (U.add n c).ls m = []) := fun m hm => by
    rcases List.mem_append.mp hm with q | q
    · have ne : m ≠ n := fun e => N.new (by rw [← e]; exact q)
      exact .inl ⟨q, if_neg ne, if_neg ne⟩
    · have e := List.mem_singleton.mp q
      exact .inr ⟨e, if_pos e, if_pos e⟩
  have up : ∀ {m : Str}, m ∈ U.names → m ∈ (U.add n c).names := fun h => List.mem_append_left _ h
  have nin : n ∈ (U.add n c).names := List.mem_append_right _ List.mem_cons_self
  have lin : ∀ m ∈ n :: r, m ∈ (U.add n c).names := fun m hm => by
    rcases List.mem_cons.mp hm with e | e
    · rw [e]; exact nin
    · exact up (h3 m e)
  have nmsA : ∀ m ∈ (U.add n c).names, m ∈ Tb.NAMES := fun m hm => by
    rcases sp m hm with ⟨q, _, _⟩ | ⟨q, _, _⟩
    · exact ok.nms m q
    · rw [q]; exact N.nm
  refine ⟨?_, ?_, fun b hb m hm => ?_, fun b hb => ?_, fun b hb => ?_, fun b hb m hm => ?_, fun b hb => ?_, fun b hb m hm => ?_, fun b hb => ?_, nmsA, fun b hb h hh => ?_, fun b hb => ?_, fun b hb => ?_, fun b hb h hh => ?_⟩
  · show (U.names ++ [n]).Nodup
    rw [List.nodup_append]
    exact ⟨ok.nd, by simp, fun a ha b hb e => N.new (by rw [← List.mem_singleton.mp hb, ← e]; exact ha)⟩
  · show (U.names ++ [n]).length ≤ 20
    rw [List.length_append]; exact hz
  · rcases sp b hb with ⟨q, e, _⟩ | ⟨q, e, _⟩
    · rw [e] at hm; exact up (ok.line b q m hm)
    · rw [e, h1] at hm; exact lin m hm
  · rcases sp b hb with ⟨q, e, _⟩ | ⟨q, e, _⟩
    · rw [e]; exact ok.lsz b q
    · rw [e, h1]
      exact Nat.le_trans (length_le_of_nodup_of_subset _ Tb.NAMES h2 fun m hm => nmsA m (lin m hm)) (by decide)
  · rcases sp b hb with ⟨q, e, _⟩ | ⟨q, e, _⟩
    · rw [e]; exact ok.psz b q
    · rw [e]; exact Nat.le_trans N.psz (by decide)
  · rcases sp b hb with ⟨q, e, _⟩ | ⟨q, e, _⟩
    · rw [e] at hm; exact up (ok.pin b q m hm)
    · rw [e] at hm; exact up (N.pin m hm)
  · rcases sp b hb with ⟨q, _, e⟩ | ⟨q, _, e⟩
    · rw [e]; exact ok.rsz b q
    · rw [e]; exact Nat.zero_le _
  · rcases sp b hb with ⟨q, _, e⟩ | ⟨q, _, e⟩
    · rw [e] at hm; exact up (ok.reg b q m hm)
    · rw [e] at hm; cases hm
  · rcases sp b hb with ⟨q, _, e⟩ | ⟨q, _, e⟩
    · rw [e]; exact ok.lnd b q
    · rw [e]; exact List.nodup_nil
  · rcases sp b hb with ⟨q, e, _⟩ | ⟨q, e, _⟩
    · rw [e] at hh; exact ok.mth b q h hh
    · rw [e] at hh; exact (N.hk h hh).1.mt
  · rcases sp b hb with ⟨q, e, _⟩ | ⟨q, e, _⟩
    · rw [e]; exact ok.mrk b q
    · rw [e]; exact N.mks
  · rcases sp b hb with ⟨q, e, _⟩ | ⟨q, e, _⟩
    · rw [e]; exact ok.mkd b q
    · rw [e]; exact N.mkd
  · rcases sp b hb with ⟨q, e, _⟩ | ⟨q, e, _⟩
    · rw [e] at hh; exact ok.hsz b q h hh
    · rw [e] at hh
      have k := (N.hk h hh).1
      exact ⟨k.sz, fun c hc => Nat.le_trans (k.csz hc) (by decide)⟩
theorem Bare.add {U : Tb} (B : Bare U) {n : Str} {c : Cl} (N : NewCl U n c) (hz : U.names.length < 20) : Bare (U.add n c) := by
  refine ⟨B.ok.add N hz, fun i m hm => ?_⟩
  by_cases hi : i < U.names.length
  · have hm' : U.names[i]? = some m := by
      rw [← hm]
      exact (List.getElem?_append_left hi).symm
    have hmn : m ∈ U.names := List.mem_of_getElem? hm'
    rw [Tb.add_cl fun e => N.new (by rw [← e]; exact hmn)]
    exact (B.nc i m hm').congr (B.pre_ok i) (add_same N.new i (by omega))
  · have hm' : ([n] : List Str)[i - U.names.length]? = some m := by
      rw [← hm]
      exact (List.getElem?_append_right (by omega)).symm
    have h1 : i - U.names.length = 0 := by
      have := (List.getElem?_eq_some_iff.mp hm').1
      simp at this
      omega
    rw [h1] at hm'
    cases hm'
    rw [Tb.add_new]
    obtain rfl : i = U.names.length := by omega
    refine N.congr B.ok (SameCl.trans (U2 := U.pre U.names.length) ⟨?_, fun _ _ => rfl⟩ (add_same N.new _ (Nat.le_refl _)))
    exact (List.take_length ..).symm
structure Drawn (U : Tb) : Prop where
  b : Bare U
  sw : ∀ n ∈ U.names, ∀ m ∈ U.ls n, U.sworn n = true
  ac : Acyc U.shape U.R
theorem Bare.drawn {U : Tb} (B : Bare U) (h : ∀ n ∈ U.names, U.ls n = []) : Drawn U := by
  refine ⟨B, fun n hn m hm => (by rw [h n hn] at hm; cases hm), fun u v huv hr => ?_⟩
  obtain ⟨rk, hrk⟩ := B.cls.rank
  have lt : ∀ u v, nx U.shape U.R u v → rk u < rk v := fun u v s => by
    rcases s.2 with q | q
    · have := q.2
      rw [h u q.1] at this
      cases this
    · exact hrk v q.1 u q.2
  have le : ∀ u v, Rch (nx U.shape U.R) u v → rk u ≤ rk v := fun u v r => by
    induction r with
    | refl => exact Nat.le_refl _
    | tail _ s ih => have := lt _ _ s; omega
  have h1 := lt _ _ huv
  have h2 := le _ _ hr
  omega
theorem Tb.reg1_mem {U : Tb} {a b u v : Str} (h : v ∈ (U.reg1 a b).ls u) : v ∈ U.ls u ∨ (u = a ∧ v = b) := by
  have h' : v ∈ if u = a then (if (U.ls u).contains b = true then U.ls u else U.ls u ++ [b]) else U.ls u := h
  split at h'
  · split at h'
    · exact .inl h'
    · rename_i e _
      rcases List.mem_append.mp h' with q | q
      · exact .inl q
      · exact .inr ⟨e, List.mem_singleton.mp q⟩
  · exact .inl h'
theorem Tb.Ok.reg1 {U : Tb} (ok : U.Ok) {a b : Str} (hb : b ∈ U.names) : (U.reg1 a b).Ok := by
  have nd : ∀ n ∈ U.names, ((U.reg1 a b).ls n).Nodup := fun n hn => by
    show (if n = a then (if (U.ls n).contains b = true then U.ls n else U.ls n ++ [b]) else U.ls n).Nodup
    split
    · split
      · exact ok.lnd n hn
      · rename_i h
        rw [List.nodup_append]
        exact ⟨ok.lnd n hn, by simp, fun x hx y hy e => h (List.contains_iff_mem.mpr (by rw [← List.mem_singleton.mp hy, ← e]; exact hx))⟩
    · exact ok.lnd n hn
  have rg : ∀ n ∈ U.names, ∀ m ∈ (U.reg1 a b).ls n, m ∈ U.names := fun n hn m hm => by
    rcases Tb.reg1_mem hm with q | q
    · exact ok.reg n hn m q
    · rw [q.2]; exact hb
  exact ⟨ok.nd, ok.sz, ok.line, ok.lsz, ok.psz, ok.pin, fun n hn => Nat.le_trans (length_le_of_nodup_of_subset _ _ (nd n hn) (rg n hn)) (Nat.le_trans ok.sz (by decide)), rg, nd, ok.nms, ok.mth, ok.mrk, ok.mkd, ok.hsz⟩
theorem acyc_add {α : Type} {M : Shape α} {R R' : α → α → Prop} {a b : α} (ac : Acyc M R) (hR : ∀ u v, R' u v → R u v ∨ (u = a ∧ v = b)) (hno : ¬ Rch (nx M R) b a) : Acyc M R' := by
  have step : ∀ u v, nx M R' u v → nx M R u v ∨ (u = a ∧ v = b) := fun u v h => by
    rcases h.2 with q | q
    · rcases hR u v q with q2 | q2
      · exact .inl ⟨h.1, .inl q2⟩
      · exact .inr q2
    · exact .inl ⟨h.1, .inr q⟩
  have go : ∀ x y, Rch (nx M R') x y → Rch (nx M R) x y ∨ (Rch (nx M R) x a ∧ Rch (nx M R) b y) := fun x y r => by
    induction r with
    | refl => exact .inl (.refl _)
    | tail _ s ih =>
      rcases step _ _ s with q | ⟨q1, q2⟩
      · exact ih.imp (fun h => .tail h q) (fun h => ⟨h.1, .tail h.2 q⟩)
      · subst q1 q2
        rcases ih with h | h
        · exact .inr ⟨h, .refl _⟩
        · exact .inr ⟨h.1, .refl _⟩
  intro u v h r
  rcases step u v h with q | ⟨q1, q2⟩
  · rcases go v u r with g | g
    · exact ac u v q g
    · exact hno ((Rch.tail g.2 q).trans g.1)
  · subst q1 q2
    rcases go _ _ r with g | g
    · exact hno g
    · exact hno g.1
theorem Drawn.reg {U : Tb} (D : Drawn U) {a b : Str} (ha : a ∈ U.names) (hb : b ∈ U.names) (hs : U.sworn a = true) (hno : ¬ U.Rn b a) : Drawn (U.reg1 a b) := by
  refine ⟨⟨D.b.ok.reg1 hb, D.b.nc⟩, fun n hn m hm => ?_, ?_⟩
  · rcases Tb.reg1_mem hm with q | q
    · exact D.sw n hn m q
    · rw [q.1]; exact hs
  · refine acyc_add (R := U.R) (M := U.shape) (a := a) (b := b) D.ac (fun u v h => ?_) (fun h => hno ((Tb.Rn_iff D.b.ok hb a).2 h))
    rcases Tb.reg1_mem h.2 with q | q
    · exact .inl ⟨h.1, q⟩
    · exact .inr q
/-- alike for a heap -/
structure SameW (V U : Tb) : Prop where
  nm : V.names = U.names
  cl : ∀ n ∈ V.names, V.cl n = U.cl n
  ls : ∀ n ∈ V.names, V.ls n = U.ls n
theorem WldF.congr {V U : Tb} {H0 H : Hp} {w : Addr} (s : SameW V U) (h : WldF H0 H w V) : WldF H0 H w U := by
  obtain ⟨t, dx, r, nb, l, mk, ad, lf, mf, la, X⟩ := h.ex
  obtain ⟨nv, cv, lv⟩ := V
  obtain ⟨nu, cu, lu⟩ := U
  obtain ⟨s1, s2, s3⟩ := s
  obtain rfl : nv = nu := s1
  obtain ⟨hw, T⟩ := X
  exact ⟨t, dx, r, nb, l, mk, ad, lf, mf, la, ⟨hw, ⟨T.ht, T.hr, fun n hn => Eq.mp (congrArg (fun c => EntL H (ad n) n c (lf n) (mf n)) (s2 n hn)) (T.he n hn), T.hn, T.hl, fun n hn => Eq.mp (congrArg (fun x => H (la n) = some (HO.lst (vS x))) (s3 n hn)) (T.hls n hn), T.ft, T.fr, T.fnb, T.fl, T.fla, T.inj, T.sep, T.d1, T.d2, T.d3, T.dm⟩⟩⟩
end Sw
set_option linter.all false
set_option maxRecDepth 100000
set_option maxHeartbeats 2000000
/-! The law's plain worlds; heaps that keep all but bags. -/
namespace Sw
open PySem PySem.Spec PyProof.Rows L2 LamX
/-! ### heaps that keep all but bags -/
def bagS : HO → Bool
  | .lst [.int _, .int _, .int _] => true
  | _ => false
def keepO (o : HO) : Bool := plainO o && !bagS o
structure LeB (H H' : Hp) : Prop where
  ext : ∀ b o, H b = some o → keepO o = true → H' b = some o
  tab : Tabs TBS H → Tabs TBS H'
  bg : ∀ b x y c, H b = some (.lst [.int x, .int y, .int c]) → ∃ x' y' c', H' b = some (.lst [.int x', .int y', .int c'])
theorem bag_of {o : HO} (h : bagS o = true) : ∃ x y c, o = .lst [.int x, .int y, .int c] := by
  unfold bagS at h
  split at h
  · exact ⟨_, _, _, rfl⟩
  · cases h
theorem keep_plain {o : HO} (h : keepO o = true) : plainO o = true := (Bool.and_eq_true_iff.mp h).1
theorem Le.b {H H' : Hp} (e : Le H H') : LeB H H' := ⟨fun _ _ h k => e.at h (keep_plain k), e.tab, fun _ x y c h => ⟨x, y, c, e.at h⟩⟩
theorem LeB.refl (H : Hp) : LeB H H := ⟨fun _ _ h _ => h, id, fun _ x y c h => ⟨x, y, c, h⟩⟩
theorem LeB.trans {H H1 H2 : Hp} (a : LeB H H1) (b : LeB H1 H2) : LeB H H2 := ⟨fun c o h k => b.ext c o (a.ext c o h k) k, fun t => b.tab (a.tab t), fun d x y c h => let ⟨x1, y1, c1, h1⟩ := a.bg d x y c h; b.bg d x1 y1 c1 h1⟩
theorem LeB.at {H H' : Hp} {a : Addr} {o : HO} (e : LeB H H') (h : H a = some o) (n : keepO o = true := by rfl) : H' a = some o := e.ext _ _ h n
theorem keep_vS (l : List Str) : keepO (.lst (vS l)) = true := by
  match l with
  | [] => rfl
  | [_] => rfl
  | [_, _] => rfl
  | [_, _, _] => rfl
  | _ :: _ :: _ :: _ :: _ => rfl
theorem keep_refs {l : List V} (h : ∀ v ∈ l, ∃ a, v = .ref a) : keepO (.lst l) = true := by
  match l, h with
  | [], _ => rfl
  | a :: r, h =>
    obtain ⟨x, rfl⟩ := h a (by simp)
    match r with
    | [] => rfl
    | [_] => rfl
    | [_, _] => rfl
    | _ :: _ :: _ :: _ => rfl
theorem tabs_upd {H : Hp} {p : Addr} {o o' : HO} (hp : H p = some o) (n : plainO o = true) (t : Tabs TBS H) : Tabs TBS (upd H p o') := fun x hx => by
  obtain ⟨ps, h1, h2, h3⟩ := t x hx
  have nP : x.1 ≠ p := fun z => by rw [z, hp] at h1; cases h1; cases n
  refine ⟨ps, by rw [upd_ne nP]; exact h1, h2, fun pos cv hc => ?_⟩
  obtain ⟨c, e1, e2⟩ := h3 pos cv hc
  refine ⟨c, e1, ?_⟩
  have nc : c ≠ p := fun z => by
    rw [z, hp] at e2
    have q := Option.some.inj e2
    rw [q] at n
    unfold CodeO at n
    cases n
  rw [upd_ne nc]
  exact e2
/-- nothing plain stood there -/
abbrev FreB (H : Hp) (p : Addr) : Prop := Fre H p
theorem Fre.b {H : Hp} {p : Addr} (h : Fre H p) : FreB H p := h
theorem LeB.fre {H H' : Hp} {p : Addr} (e : LeB H H') (h : FreB H' p) : FreB H p := fun o pl q => by
  by_cases k : keepO o = true
  · exact h o pl (e.at q k)
  · have hb : bagS o = true := by
      unfold keepO at k
      rw [pl, Bool.true_and] at k
      cases z : bagS o with
      | true => rfl
      | false => rw [z] at k; exact absurd rfl k
    obtain ⟨x, y, c, rfl⟩ := bag_of hb
    obtain ⟨x1, y1, c1, h1⟩ := e.bg p x y c q
    exact h _ rfl h1
theorem LeB.mutF {H H' : Hp} {p : Addr} {o o' : HO} (e : LeB H H') (f : FreB H p) (h' : H' p = some o') (n : plainO o' = true) : LeB H (upd H' p o) :=
  ⟨fun b u q k => by
    rw [upd_ne (fun z => by rw [z] at q; exact f u (keep_plain k) q)]
    exact e.at q k, fun t => tabs_upd h' n (e.tab t), fun d x y c q => by
    rw [upd_ne (fun z => by rw [z] at q; exact f _ rfl q)]
    exact e.bg d x y c q⟩
theorem LeB.bag {H : Hp} {p : Addr} {a b c a' b' c' : Int} (h : H p = some (.lst [.int a, .int b, .int c])) : LeB H (upd H p (.lst [.int a', .int b', .int c'])) :=
  ⟨fun d u q k => by
    rw [upd_ne (fun z => by rw [z, h] at q; cases q; cases k)]
    exact q, fun t => tabs_upd h rfl t, fun d x y z q => by
    by_cases w : d = p
    · rw [w]; exact ⟨a', b', c', upd_same⟩
    · exact ⟨x, y, z, (upd_ne w).trans q⟩⟩

/-! ### the law's plain worlds -/
def RuleAt (H : Hp) (v : V) (h : Option Hook) (ps : Bool) : Prop := match h with
  | none => v = .non ∧ ps = false
  | some h => ∃ a hv, v = .ref a ∧ H a = some (.tup [hv, .bl ps]) ∧ HookAt H hv h
structure PlnX (H : Hp) (p : Addr) (U : Tb) (kvs : List (Key × V)) (an ab ao as ar ad al : Addr) (fb fs fo fl : Str → Addr) (rv : Str → V) : Prop where
  hp : H p = some (.dK kvs)
  k1 : valV kvs (Sum.inr "names") = some (.ref an)
  k2 : valV kvs (Sum.inr "bases") = some (.ref ab)
  k3 : valV kvs (Sum.inr "own") = some (.ref ao)
  k4 : valV kvs (Sum.inr "signs") = some (.ref as)
  k5 : valV kvs (Sum.inr "rules") = some (.ref ar)
  k6 : valV kvs (Sum.inr "order") = some (.ref ad)
  k7 : valV kvs (Sum.inr "lists") = some (.ref al)
  hn : H an = some (.lst (vS U.names))
  hb : H ab = some (.dK (kvR U.names fb))
  ho : H ao = some (.dK (U.names.map fun n => (Sum.inr n, V.bl (U.cl n).own)))
  hs : H as = some (.dK (kvR U.names fs))
  hr : H ar = some (.dK (U.names.map fun n => (Sum.inr n, rv n)))
  hd : H ad = some (.dK (kvR U.names fo))
  hl : H al = some (.dK (kvR U.names fl))
  vb : ∀ n ∈ U.names, H (fb n) = some (.lst (vS (U.cl n).par))
  vs : ∀ n ∈ U.names, H (fs n) = some (.dK (kvM (U.cl n).marks))
  vr : ∀ n ∈ U.names, RuleAt H (rv n) (U.cl n).hook (U.cl n).passed
  vo : ∀ n ∈ U.names, H (fo n) = some (.lst (vS (U.cl n).line))
  vl : ∀ n ∈ U.names, H (fl n) = some (.lst (vS (U.ls n)))
structure PlnAt (H : Hp) (p : Addr) (U : Tb) : Prop where
  ex : ∃ kvs an ab ao as ar ad al fb fs fo fl rv, PlnX H p U kvs an ab ao as ar ad al fb fs fo fl rv
section
variable {H H' : Hp}
theorem ClauseAt.monoB (e : LeB H H') {v : V} {c : List Str × Bool} (h : ClauseAt H v c) : ClauseAt H' v c := by
  obtain ⟨a, m, h1, h2, h3⟩ := h
  exact ⟨a, m, h1, e.at h2, e.at h3⟩
theorem HookAt.monoB (e : LeB H H') {v : V} {c : Hook} (h : HookAt H v c) : HookAt H' v c := by
  obtain ⟨a, vs, h1, h2, h3⟩ := h
  exact ⟨a, vs, h1, e.at h2, Paired.mapP h3 fun _ _ q => q.monoB e⟩
theorem OHook.monoB (e : LeB H H') {v : V} : ∀ {c : Option Hook}, OHook H v c → OHook H' v c
  | none, h => h
  | some _, h => HookAt.monoB e h
theorem RuleAt.monoB (e : LeB H H') {v : V} {ps : Bool} : ∀ {h : Option Hook}, RuleAt H v h ps → RuleAt H' v h ps
  | none, h => h
  | some _, ⟨a, hv, h1, h2, h3⟩ => ⟨a, hv, h1, e.at h2, h3.monoB e⟩
theorem PlnX.monoB (e : LeB H H') {p : Addr} {U : Tb} {kvs : List (Key × V)} {an ab ao as ar ad al : Addr} {fb fs fo fl : Str → Addr} {rv : Str → V} (h : PlnX H p U kvs an ab ao as ar ad al fb fs fo fl rv) : PlnX H' p U kvs an ab ao as ar ad al fb fs fo fl rv :=
  ⟨e.at h.hp, h.k1, h.k2, h.k3, h.k4, h.k5, h.k6, h.k7, e.at h.hn (keep_vS _), e.at h.hb, e.at h.ho, e.at h.hs, e.at h.hr, e.at h.hd, e.at h.hl, fun n hn => e.at (h.vb n hn) (keep_vS _), fun n hn => e.at (h.vs n hn), fun n hn => (h.vr n hn).monoB e, fun n hn => e.at (h.vo n hn) (keep_vS _), fun n hn => e.at (h.vl n hn) (keep_vS _)⟩
theorem PlnAt.monoB (e : LeB H H') {p : Addr} {U : Tb} (h : PlnAt H p U) : PlnAt H' p U := by
  obtain ⟨kvs, an, ab, ao, as, ar, ad, al, fb, fs, fo, fl, rv, X⟩ := h.ex
  exact ⟨kvs, an, ab, ao, as, ar, ad, al, fb, fs, fo, fl, rv, X.monoB e⟩
theorem PlnAt.mono (e : Le H H') {p : Addr} {U : Tb} (h : PlnAt H p U) : PlnAt H' p U := h.monoB e.b
theorem EntAt.monoB (e : LeB H H') {a : Addr} {n : Str} {c : Cl} (h : EntAt H a n c) : EntAt H' a n c := by
  obtain ⟨dx, tp, mk, hv, ln, h1, h2, h3, h4, h5⟩ := h.ex
  exact ⟨dx, tp, mk, hv, ln, e.at h1, e.at h2, e.at h3, h4.monoB e, e.at h5 (keep_vS _)⟩
theorem TabAt.monoB (e : LeB H H') {t : Addr} {T : Tb} (h : TabAt H t T) : TabAt H' t T := by
  obtain ⟨dx, r, nb, l, mk, h1, ⟨ad, h2, h3⟩, ⟨kv, h4, h5⟩, ⟨la, h6, h7⟩⟩ := h.ex
  exact ⟨dx, r, nb, l, mk, e.at h1, ⟨ad, e.at h2, fun n hn => (h3 n hn).monoB e⟩, ⟨kv, e.at h4, h5⟩, ⟨la, e.at h6, fun n hn => e.at (h7 n hn) (keep_vS _)⟩⟩
theorem WorldAt.monoB (e : LeB H H') {w : Addr} {U : Tb} (h : WorldAt H w U) : WorldAt H' w U := by
  obtain ⟨dx, t, ca, vi, th, ch, h1, h2⟩ := h.ex
  exact ⟨dx, t, ca, vi, th, ch, e.at h1, h2.monoB e⟩
theorem pair_refs {H : Hp} : ∀ {ps : List (Str × Str)} {rs : List V}, Paired (fun p v => PairAt H v p) ps rs → ∀ v ∈ rs, ∃ a, v = .ref a := fun h => paired_mem h fun _ _ ⟨a, e, _⟩ => ⟨a, e⟩
theorem RegsAt.monoB (e : LeB H H') {l : Addr} {ps : List (Str × Str)} (h : RegsAt H l ps) : RegsAt H' l ps := by
  obtain ⟨rs, h1, h2⟩ := h
  exact ⟨rs, e.at h1 (keep_refs (pair_refs h2)), Paired.mapP h2 fun _ _ ⟨a, x, y⟩ => ⟨a, x, e.at y⟩⟩
end
end Sw
set_option linter.all false
set_option maxRecDepth 100000
set_option maxHeartbeats 4000000
/-! SwF19: the law's readers of a plain world. Terms printed by gen_term.py. -/
namespace Sw
open PySem PySem.Spec PyProof.Rows L2 LamX
section
variable {P : Program} {w : World} {K : PySem.W.Frag} {mg : Str → Option Value} {base : Heap}


def spLSworn : Sp := fun vs H Q _ => ∃ p U n, vs = [.ref p, .str n] ∧ PlnAt H p U ∧ U.Ok ∧ n ∈ U.names ∧ ∀ H', Le H H' → Q (.bl (U.sworn n)) H'
def spLNext : Sp := fun vs H Q _ => ∃ p U n, vs = [.ref p, .str n] ∧ PlnAt H p U ∧ U.Ok ∧ n ∈ U.names ∧ ∀ q H', Le H H' → Fre H q → H' q = some (.lst (vS (U.next n))) → Q (.ref q) H'
def spLLed : Sp := fun vs H Q _ => ∃ p U n, vs = [.ref p, .str n] ∧ PlnAt H p U ∧ U.Ok ∧ n ∈ U.names ∧ ∀ q H' es, Le H H' → H' q = some (.lst (vS es)) → (∀ x, x ∈ es ↔ U.Rn n x) → Q (.ref q) H'
def spLAdmits : Sp := fun vs H Q _ => ∃ p U n m, vs = [.ref p, .str n, .str m] ∧ PlnAt H p U ∧ U.Ok ∧ n ∈ U.names ∧ m ∈ U.names ∧ ∀ b H', Le H H' → (b = true ↔ U.sworn n = true ∧ ¬ U.Rn m n) → Q (.bl b) H'
def spLListed : Sp := fun vs H Q _ => ∃ p U, vs = [.ref p] ∧ PlnAt H p U ∧ U.Ok ∧ ∀ q H', Le H H' → RegsAt H' q U.regs → Q (.ref q) H'


theorem dkey {H : Hp} {p : Addr} {kvs : List (Key × V)} {x : Str} {v : V} (hp : H p = some (.dK kvs)) (h : valV kvs (Sum.inr x) = some v) : DGet H p (.str x) (some v) := .inl ⟨kvs, Sum.inr x, .inl hp, rfl, h.symm⟩

theorem sc_Lsworn : FnScope ["_law_plain", "_law_name", "_law_one"] ["_law_plain", "_law_name"] (defScope s_Lsworn) := ⟨rfl, rfl, rfl, by decide +kernel, rfl, by decide +kernel, by decide +kernel⟩
theorem ok_Lsworn (T : Tx K mg)  : Cal P w K mg base "_law_sworn" 1 ["_law_plain", "_law_name"] spLSworn := by
  obtain ⟨fd, F⟩ := T.fn _ fi_Lsworn
  have G : FnOk P w K mg base CX0 1 d_Lsworn.f fd ["_law_plain", "_law_name"] spLSworn := by
    refine F.ok sc_Lsworn (fun vs H Q E h => ?_) (fun cdv A outer s H vs Q E hr h => ⟨_, PSs.nox (X := cxOf CX0 P w K mg base _ _ _ _ cdv A outer s H E) ((pss_one (ps_ret (pe_callB (wany K rfl) (by rfl) T.f_any bb_any (pa_cons (pe_lc (own := [("_law_one", 2)]) rfl sc_Lsworn.nd (wlist K (pe_dget (hu_of hr) (pe_dget (hu_of hr) (pv 0) pe_str (fun _ _ => rfl)) (pv 1) (fun _ _ => rfl))) (blkOk_by (N := ["_law_plain", "_law_name", "_law_one"]) (sc := defScope s_Lsworn) (own := [("_law_one", 2)]) (by decide +kernel)) (fun _ _ _ _ _ => (pg_name (i := 2) sc_Lsworn.nd rfl (Or.inl rfl))) (fun _ _ _ _ _ => pts_nil) (fun _ _ _ _ _ => (pe_dget (hu_of hr) (pe_dget (hu_of hr) (pv 0) pe_str (fun _ _ => rfl)) (pv 2) (fun _ _ => rfl)))) pa_nil))))), ?_⟩)
    · obtain ⟨_, _, _, rfl, _⟩ := h
      rfl
    · obtain ⟨p, U, n, rfl, ⟨kvs, an, ab, ao, as, ar, ad, al, fb, fs, fo, fl, rv, X⟩, ok, hn, k⟩ := h
      refine ⟨_, rfl, p, _, rfl, dkey X.hp X.k6, _, rfl, ad, _, rfl, dget_kv (.inl X.hd) hn, fo n, rfl, ⟨_, SqL.of (X.vo n hn)⟩, fun D hD => ?_⟩
      refine lc_A (ws_list (K := K) (a := fo n) (l := (U.cl n).line)) (fun m => .bl (U.cl m).own) (by have := ok.lsz n hn; omega) hD (fun H' e => SqL.of (e.at (X.vo n hn))) ?_ ?_
      · intro z hz Hb e _ QF QT h2
        exact ⟨rfl, _, rfl, p, _, rfl, dkey (e.at X.hp) X.k3, _, rfl, ao, _, rfl, dget_kv (.inl (e.at X.ho)) (ok.line n hn z hz), h2 Hb (Le.refl _)⟩
      · intro H2 e hD2
        refine ⟨D, ((U.cl n).line.map fun m => (U.cl m).own), rfl, SqL.of (by rw [hD2, List.map_map]; rfl), ?_⟩
        rw [List.any_map]
        exact k H2 e
  exact ⟨⟨_, fd, G, T.g_Lsworn, F.kp, F.bindsN (ps := ["_law_plain", "_law_name"]) fun _ _ _ _ _ _ us hl => match us, hl with | [_, _], _ => rfl⟩⟩

theorem sc_Lnext : FnScope ["_law_plain", "_law_name", "_law_found", "_law_one"] ["_law_plain", "_law_name"] (defScope s_Lnext) := ⟨rfl, rfl, rfl, by decide +kernel, rfl, by decide +kernel, by decide +kernel⟩
theorem ok_Lnext (T : Tx K mg) (c_Lsworn : Cal P w K mg base "_law_sworn" 1 ["_law_plain", "_law_name"] spLSworn) : Cal P w K mg base "_law_next" 2 ["_law_plain", "_law_name"] spLNext := by
  obtain ⟨fd, F⟩ := T.fn _ fi_Lnext
  have G : FnOk P w K mg base CX0 2 d_Lnext.f fd ["_law_plain", "_law_name"] spLNext := by
    refine F.ok sc_Lnext (fun vs H Q E h => ?_) (fun cdv A outer s H vs Q E hr h => ⟨_, PSs.nox (X := cxOf CX0 P w K mg base _ _ _ _ cdv A outer s H E) ((pss_cons (ps_if (pt_not (pt_val (pc c_Lsworn hr rfl (pa_cons (pv 0) (pa_cons (pv 1) pa_nil))))) (pss_one (ps_ret (pe_lst pa_nil))) pss_nil)
    (pss_cons (ps_set (i := 2) sc_Lnext.nd rfl (Or.inr rfl) (pe_callTy (wlistof K) (by rfl) T.f_list bb_list (pa_cons (pe_dget (hu_of hr) (pe_dget (hu_of hr) (pv 0) pe_str (fun _ _ => rfl)) (pv 1) (fun _ _ => rfl)) pa_nil)))
    (pss_one (ps_ret (pe_op op_cat (pv 2) (pe_lc (own := [("_law_one", 3)]) rfl sc_Lnext.nd (wlist K (pe_dget (hu_of hr) (pv 0) pe_str (fun _ _ => rfl))) (blkOk_by (N := ["_law_plain", "_law_name", "_law_found", "_law_one"]) (sc := defScope s_Lnext) (own := [("_law_one", 3)]) (by decide +kernel)) (fun _ _ _ _ _ => (pg_name (i := 3) sc_Lnext.nd rfl (Or.inl rfl))) (fun _ _ _ _ _ => (pts_one (PW.pt (pw_and (pt_cmpR (win K) (pv 1) (pe_dget (hu_of hr) (pe_dget (hu_of hr) (pv 0) pe_str (fun _ _ => rfl)) (pv 3) (fun _ _ => rfl)) rfl) (pw_and1 (pt_cmpR (wnin K) (pv 3) (pv 2) rfl)))))) (fun _ _ _ _ _ => (pv 3))))))))), ?_⟩)
    · obtain ⟨_, _, _, rfl, _⟩ := h
      rfl
    · obtain ⟨p, U, n, rfl, PA, ok, hn, k⟩ := h
      refine ⟨_, rfl, _, rfl, p, U, n, rfl, PA, ok, hn, fun H1 e1 => ⟨_, rfl, ?_⟩⟩
      obtain ⟨kvs, an, ab, ao, as, ar, ad, al, fb, fs, fo, fl, rv, X⟩ := (PA.mono e1).ex
      cases hs : U.sworn n with
      | false =>
        refine iteT ⟨by decide, fun q hq => k q _ (e1.trans (Le.new hq)) (e1.fr0 hq) ?_⟩
        unfold Tb.next
        rw [hs]
        exact upd_same
      | true =>
        refine iteF ⟨_, rfl, p, _, rfl, dkey X.hp X.k7, _, rfl, al, _, rfl, dget_kv (.inl X.hl) hn, fl n, _, rfl, .inl (SqL.of (X.vl n hn)), fun f hf => ?_⟩
        have e2 := Le.new (o := .lst (vS (U.ls n))) hf
        show gName 2 _ _ _ _
        refine ⟨_, rfl, _, rfl, p, _, rfl, dkey (e2.at X.hp) X.k1, an, rfl, ⟨_, SqL.of (e2.at X.hn)⟩, fun D hD => ?_⟩
        have hz := ok.sz
        refine lc_S (ws_list (K := K) (a := an) (l := U.names)) (fun o => (U.cl o).par.contains n && !(U.ls n).contains o) V.str (by omega) hD (fun H' e => SqL.of (e.at (e2.at X.hn))) ?_ ?_
        · intro z hz Hb e _ QF QT h1 h2
          have e2b := e2.trans e
          refine ⟨rfl, _, rfl, _, rfl, p, _, rfl, dkey (e2b.at X.hp) X.k2, _, rfl, ab, _, rfl, dget_kv (.inl (e2b.at X.hb)) hz, fb z, _, rfl, .inl (SqL.of (e2b.at (X.vb z hz))), rfl, vS_flat _, ?_⟩
          rw [inV_vS]
          refine ⟨_, rfl, ?_⟩
          cases hq : (U.cl z).par.contains n with
          | false => exact iteF (h1 Hb (Le.refl _) (by rw [hq]; rfl))
          | true =>
            refine iteT ⟨_, rfl, _, rfl, f, _, rfl, .inl (SqL.of (e.at upd_same)), rfl, vS_flat _, ?_⟩
            rw [inV_vS]
            cases hq2 : (U.ls n).contains z with
            | true => exact ⟨_, rfl, iteF (h1 Hb (Le.refl _) (by rw [hq, hq2]; rfl))⟩
            | false => exact ⟨_, rfl, iteT ⟨_, rfl, h2 Hb (Le.refl _) (by rw [hq, hq2]; rfl)⟩⟩
        · intro H3 e3 hD3
          have hrs := ok.rsz n hn
          have hf2 := List.length_filter_le (fun o => (U.cl o).par.contains n && !(U.ls n).contains o) U.names
          refine ⟨f, D, _, _, rfl, rfl, e3.at upd_same, hD3, sz5 (by rw [vS_len, List.length_map]; omega), fun q hq => k q _ (((e1.trans e2).trans e3).trans (Le.new hq)) (((e1.trans e2).trans e3).fr0 hq) ?_⟩
          unfold Tb.next Tb.below
          rw [hs, if_pos rfl, vS_app, List.filter_filter]
          rw [upd_same]
          congr 3
          show _ = List.map V.str _
          congr 1
          refine List.filter_congr fun x _ => ?_
          rw [Bool.and_comm]
  exact ⟨⟨_, fd, G, T.g_Lnext, F.kp, F.bindsN (ps := ["_law_plain", "_law_name"]) fun _ _ _ _ _ _ us hl => match us, hl with | [_, _], _ => rfl⟩⟩


theorem Tb.Ok.next_nd {U : Tb} (ok : U.Ok) {n : Str} (hn : n ∈ U.names) : (U.next n).Nodup := by
  unfold Tb.next
  split
  · rw [List.nodup_append]
    refine ⟨ok.lnd n hn, ((ok.nd.filter _).filter _), fun a ha b hb z => ?_⟩
    have h := (List.mem_filter.mp hb).2
    rw [← z, List.contains_iff_mem.mpr ha] at h
    cases h
  · exact List.nodup_nil
structure LedX (U : Tb) (n : Str) (l : List Str) (i : Nat) : Prop where
  nd : l.Nodup
  st : n ∈ l
  rc : ∀ x ∈ l, x ∈ U.names ∧ U.Rn n x
  il : i ≤ l.length
  dn : ∀ j x, j < i → l[j]? = some x → ∀ y ∈ U.next x, y ∈ l
theorem LedX.end_ {U : Tb} {n : Str} {l : List Str} {i : Nat} (F : LedX U n l i) (h : ¬ i < l.length) (x : Str) : x ∈ l ↔ U.Rn n x := by
  refine ⟨fun hx => (F.rc x hx).2, fun h2 => ?_⟩
  have go : ∀ a b, Rch (fun u v => v ∈ U.next u) a b → a ∈ l → b ∈ l := by
    intro a b r ha
    induction r with
    | refl => exact ha
    | tail r s ih =>
      obtain ⟨j, hj, e⟩ := List.mem_iff_getElem.mp ih
      exact F.dn j _ (by omega) (by rw [List.getElem?_eq_getElem hj, e]) _ s
  exact go _ _ h2 F.st
theorem LedX.step {U : Tb} (ok : U.Ok) {n : Str} {l : List Str} {i : Nat} (F : LedX U n l i) {x : Str} (hx : l[i]? = some x) : LedX U n (l ++ (U.next x).filter fun o => !l.contains o) (i + 1) := by
  have hxl := List.mem_of_getElem? hx
  obtain ⟨hxn, hxr⟩ := F.rc x hxl
  have hi : i < l.length := (List.getElem?_eq_some_iff.mp hx).1
  refine ⟨?_, List.mem_append_left _ F.st, fun y hy => ?_, by rw [List.length_append]; omega, fun j z hj e y hy => ?_⟩
  · rw [List.nodup_append]
    refine ⟨F.nd, (ok.next_nd hxn).filter _, fun a ha b hb z => ?_⟩
    have h := (List.mem_filter.mp hb).2
    rw [← z, List.contains_iff_mem.mpr ha] at h
    cases h
  · rcases List.mem_append.mp hy with h | h
    · exact F.rc y h
    · have h2 := (List.mem_filter.mp h).1
      exact ⟨ok.next_in hxn h2, .tail hxr h2⟩
  · by_cases hji : j = i
    · subst hji
      rw [List.getElem?_append_left hi, hx] at e
      cases e
      by_cases hyl : y ∈ l
      · exact List.mem_append_left _ hyl
      · refine List.mem_append_right _ (List.mem_filter.mpr ⟨hy, ?_⟩)
        rw [Bool.not_eq_true', Bool.eq_false_iff]
        exact fun z => hyl (List.contains_iff_mem.mp z)
    · have hj2 : j < i := by omega
      rw [List.getElem?_append_left (by omega)] at e
      exact List.mem_append_left _ (F.dn j z hj2 e y hy)

theorem sc_Lled : FnScope ["_law_plain", "_law_name", "_law_found", "_law_at", "_law_one"] ["_law_plain", "_law_name"] (defScope s_Lled) := ⟨rfl, rfl, rfl, by decide +kernel, rfl, by decide +kernel, by decide +kernel⟩
theorem ok_Lled (T : Tx K mg) (c_Lnext : Cal P w K mg base "_law_next" 2 ["_law_plain", "_law_name"] spLNext) : Cal P w K mg base "_law_led" 3 ["_law_plain", "_law_name"] spLLed := by
  obtain ⟨fd, F⟩ := T.fn _ fi_Lled
  have G : FnOk P w K mg base CX0 3 d_Lled.f fd ["_law_plain", "_law_name"] spLLed := by
    refine F.ok sc_Lled (fun vs H Q E h => ?_) (fun cdv A outer s H vs Q E hr h => ⟨_, PSs.nox (X := cxOf CX0 P w K mg base _ _ _ _ cdv A outer s H E) ((pss_cons (ps_asg (pe_tup (pa_cons (pe_lst (pa_cons (pv 1) pa_nil)) (pa_cons pe_int pa_nil))) (wtup (n := 2) K rfl (pgs_cons (pg_name (i := 2) sc_Lled.nd rfl (Or.inr rfl)) (pgs_cons (pg_name (i := 3) sc_Lled.nd rfl (Or.inl rfl)) pgs_nil))))
    (pss_cons (ps_while PassesOwn.never (pt_cmpR op_lt (pv 3) (pe_callB (wlen K) (by rfl) T.f_len bb_len (pa_cons (pv 2) pa_nil)) (nomark _)) (pss_cons (ps_set (i := 2) sc_Lled.nd rfl (Or.inr rfl) (pe_op op_cat (pv 2) (pe_lc (own := [("_law_one", 4)]) rfl sc_Lled.nd (wlist K (pc c_Lnext hr rfl (pa_cons (pv 0) (pa_cons (pe_ix (wixl K) (pv 2) (pv 3) (fun _ _ => rfl)) pa_nil)))) (blkOk_by (N := ["_law_plain", "_law_name", "_law_found", "_law_at", "_law_one"]) (sc := defScope s_Lled) (own := [("_law_one", 4)]) (by decide +kernel)) (fun _ _ _ _ _ => (pg_name (i := 4) sc_Lled.nd rfl (Or.inl rfl))) (fun _ _ _ _ _ => (pts_one (pt_cmpR (wnin K) (pv 4) (pv 2) rfl))) (fun _ _ _ _ _ => (pv 4)))))
    (pss_one (ps_set (i := 3) sc_Lled.nd rfl (Or.inl rfl) (pe_op op_add (pv 3) pe_int)))))
    (pss_one (ps_ret (pv 2)))))), ?_⟩)
    · obtain ⟨_, _, _, rfl, _⟩ := h
      rfl
    · obtain ⟨p, U, n, rfl, PA, ok, hn, k⟩ := h
      refine ⟨_, rfl, (by decide : 1 ≤ sizeLine), fun f0 hf0 => ⟨(by decide : 2 ≤ sizeLine), fun q hq => ⟨q, _, rfl, SqT.of upd_same, rfl, _, _, rfl, _, _, rfl, rfl, ?_⟩⟩⟩
      have e0 := (Le.new (o := .lst [V.str n]) hf0).trans (Le.new (o := .tup [V.ref f0, V.int 0]) hq)
      refine ⟨fun m σ Hc => ∃ f l i v4, σ = [some (.ref p), some (.str n), some (.ref f), some (.int (i : Nat)), v4] ∧ Le H Hc ∧ Hc f = some (.lst (vS l)) ∧ LedX U n l i ∧ m = U.names.length - i, ⟨_, f0, [n], 0, none, rfl, e0, (Le.new hq).at upd_same, ⟨by simp, by simp, fun x hx => by rw [List.mem_singleton.mp hx]; exact ⟨hn, .refl _⟩, Nat.zero_le _, fun j x hj => absurd hj (Nat.not_lt_zero _)⟩, rfl⟩, ?_⟩
      rintro m σ Hc ⟨f, l, i, v4, rfl, e, hf, F, rfl⟩
      have hll := length_le_of_nodup_of_subset _ _ F.nd fun x hx => (F.rc x hx).1
      refine ⟨_, rfl, _, rfl, f, _, rfl, .inl (SqL.of hf), _, _, rfl, rfl, _, rfl, ?_⟩
      rw [vS_len]
      by_cases hlt : i < l.length
      · rw [decide_eq_true (show (i : Int) < (l.length : Int) by omega)]
        refine iteT ⟨fun σ' H' => ∃ m', m' < U.names.length - i ∧ ∃ f l i v4, σ' = [some (.ref p), some (.str n), some (.ref f), some (.int (i : Nat)), v4] ∧ Le H H' ∧ H' f = some (.lst (vS l)) ∧ LedX U n l i ∧ m' = U.names.length - i, fun σ' H' z => z, ?_⟩
        have hx : l[i]? = some l[i] := List.getElem?_eq_getElem hlt
        have hxn := (F.rc _ (List.getElem_mem hlt)).1
        have F' := F.step ok hx
        generalize l[i] = x at hx hxn F'
        refine ⟨_, rfl, _, rfl, _, rfl, _, rfl, f, _, i, .str x, rfl, rfl, SqL.of hf, atI_nat (by unfold vS; rw [List.getElem?_map, hx]; rfl), p, U, x, rfl, PA.mono e, ok, hxn, fun q2 H2 e2 _ hq2 => ⟨q2, rfl, ⟨_, SqL.of hq2⟩, fun D hD => ?_⟩⟩
        refine lc_S (ws_list (K := K) (a := q2) (l := U.next x)) (fun o => !l.contains o) V.str (ok.next_len hxn) hD (fun H' e' => SqL.of (e'.at hq2)) ?_ ?_
        · intro z hz Hb e' _ QF QT h1 h2
          refine ⟨rfl, _, rfl, _, rfl, f, _, rfl, .inl (SqL.of (e'.at (e2.at hf))), rfl, vS_flat _, ?_⟩
          rw [inV_vS]
          cases hc : l.contains z with
          | true => exact ⟨_, rfl, iteF (h1 Hb (Le.refl _) (by rw [hc]; rfl))⟩
          | false => exact ⟨_, rfl, iteT ⟨_, rfl, h2 Hb (Le.refl _) (by rw [hc]; rfl)⟩⟩
        · intro H3 e3 hD3
          have hsz := length_le_of_nodup_of_subset _ _ F'.nd fun x hx => (F'.rc x hx).1
          have hnz := ok.sz
          have hf3 := e3.at (e2.at hf)
          refine ⟨f, D, _, _, rfl, rfl, hf3, hD3, sz5 (by rw [vS_len, List.length_map, ← List.length_append]; omega), fun q3 hq3 => ?_⟩
          show gName 2 _ _ _ _
          refine ⟨_, rfl, _, _, rfl, rfl, U.names.length - (i + 1), by omega, q3, _, i + 1, _, rfl, ((e.trans e2).trans e3).trans (Le.new hq3), ?_, F', rfl⟩
          rw [upd_same, vS_app]
          rfl
      · rw [decide_eq_false (show ¬ (i : Int) < (l.length : Int) by omega)]
        exact iteF ⟨_, rfl, k f Hc l e hf (F.end_ hlt)⟩
  exact ⟨⟨_, fd, G, T.g_Lled, F.kp, F.bindsN (ps := ["_law_plain", "_law_name"]) fun _ _ _ _ _ _ us hl => match us, hl with | [_, _], _ => rfl⟩⟩

theorem sc_Ladmits : FnScope ["_law_plain", "_law_name", "_law_other"] ["_law_plain", "_law_name", "_law_other"] (defScope s_Ladmits) := ⟨rfl, rfl, rfl, by decide +kernel, rfl, by decide +kernel, by decide +kernel⟩
theorem ok_Ladmits (T : Tx K mg) (c_Lsworn : Cal P w K mg base "_law_sworn" 1 ["_law_plain", "_law_name"] spLSworn) (c_Lled : Cal P w K mg base "_law_led" 3 ["_law_plain", "_law_name"] spLLed) : Cal P w K mg base "_law_admits" 4 ["_law_plain", "_law_name", "_law_other"] spLAdmits := by
  obtain ⟨fd, F⟩ := T.fn _ fi_Ladmits
  have G : FnOk P w K mg base CX0 4 d_Ladmits.f fd ["_law_plain", "_law_name", "_law_other"] spLAdmits := by
    refine F.ok sc_Ladmits (fun vs H Q E h => ?_) (fun cdv A outer s H vs Q E hr h => ⟨_, PSs.nox (X := cxOf CX0 P w K mg base _ _ _ _ cdv A outer s H E) ((pss_one (ps_ret (pe_and (pe_cmpR op_ne (pv 1) (pv 2) (nomark _)) (pe_and (pc c_Lsworn (hr.mono (by decide : 1 ≤ _)) rfl (pa_cons (pv 0) (pa_cons (pv 1) pa_nil))) (pe_one (pe_cmpR (wnin K) (pv 1) (pc c_Lled hr rfl (pa_cons (pv 0) (pa_cons (pv 2) pa_nil))) rfl))))))), ?_⟩)
    · obtain ⟨_, _, _, _, rfl, _⟩ := h
      rfl
    · obtain ⟨p, U, n, m, rfl, PA, ok, hn, hm, k⟩ := h
      refine ⟨_, rfl, _, rfl, rfl, _, rfl, ?_⟩
      by_cases hnm : n = m
      · rw [decide_eq_true (show V.str n = V.str m by rw [hnm])]
        exact iteF (k false H (Le.refl _) ⟨fun z => (by cases z), fun z => absurd (by rw [hnm]; exact .refl _) z.2⟩)
      · rw [decide_eq_false (show ¬ V.str n = V.str m from fun z => hnm (V.str.inj z))]
        refine iteT ⟨_, rfl, _, rfl, p, U, n, rfl, PA, ok, hn, fun H1 e1 => ⟨_, rfl, ?_⟩⟩
        cases hs : U.sworn n with
        | false => exact iteF (k false H1 e1 ⟨fun z => (by cases z), fun z => by rw [hs] at z; cases z.1⟩)
        | true =>
          refine iteT ⟨_, rfl, _, rfl, _, rfl, p, U, m, rfl, PA.mono e1, ok, hm, fun q H2 es e2 hq hes => ⟨q, _, rfl, .inl (SqL.of hq), rfl, vS_flat _, ?_⟩⟩
          rw [inV_vS]
          refine k _ H2 (e1.trans e2) ?_
          show (!es.contains n) = true ↔ _
          rw [Bool.not_eq_true', Bool.eq_false_iff, Ne, List.contains_iff_mem, hes n]
          exact ⟨fun z => ⟨hs, z⟩, fun z => z.2⟩
  exact ⟨⟨_, fd, G, T.g_Ladmits, F.kp, F.bindsN (ps := ["_law_plain", "_law_name", "_law_other"]) fun _ _ _ _ _ _ us hl => match us, hl with | [_, _, _], _ => rfl⟩⟩

end
end Sw
set_option linter.all false
set_option maxRecDepth 100000
set_option maxHeartbeats 4000000
/-! SwF20: the bag. Terms printed by gen_term.py. -/
namespace Sw
open PySem PySem.Spec PyProof.Rows L2 LamX
section
variable {P : Program} {w : World} {K : PySem.W.Frag} {mg : Str → Option Value} {base : Heap}


structure BagI (N : Nat) (x y c : Int) : Prop where
  x0 : 0 ≤ x
  y0 : 0 ≤ y
  y1 : y < 2147483587
  c0 : 0 ≤ c
  c1 : c ≤ N
abbrev bagO (x y c : Int) : HO := .lst [.int x, .int y, .int c]
def BagAt (H : Hp) (b : Addr) (N : Nat) : Prop := ∃ x y c, H b = some (bagO x y c) ∧ BagI N x y c
def spLBag (K : PySem.W.Frag) : Sp := fun vs H Q _ => ∃ a ns, ∃ i : Int, vs = [.ref a, .int i] ∧ SqL K H a (List.map V.int ns) ∧ 0 ≤ i ∧ i ≤ 100 ∧ ∀ b H', Le H H' → Fre H b → BagAt H' b 0 → Q (.ref b) H'
def spLTake : Sp := fun vs H Q _ => ∃ b N, ∃ m : Int, vs = [.ref b, .int m] ∧ BagAt H b N ∧ N ≤ 1000000 ∧ 0 < m ∧ m ≤ 1000 ∧ ∀ r x y c, 0 ≤ r → r < m → BagI (N + 1) x y c → Q (.int r) (upd H b (bagO x y c))
/-- one of some values: the list may stand written or tracked -/
def spLPick (K : PySem.W.Frag) : Sp := fun vs H Q _ => ∃ b N l xs, vs = [.ref b, .ref l] ∧ BagAt H b N ∧ N ≤ 1000000 ∧ H l = some (.lst xs) ∧ l ≠ b ∧ xs ≠ [] ∧ xs.length ≤ 1000 ∧ ∀ v x y c, v ∈ xs → BagI (N + 1) x y c → Q v (upd H b (bagO x y c))

theorem sc_Lbag : FnScope ["_law_script", "_law_at", "_law_cell", "_law_digits"] ["_law_script", "_law_at"] (defScope s_Lbag) := ⟨rfl, rfl, rfl, by decide +kernel, rfl, by decide +kernel, by decide +kernel⟩
theorem ok_Lbag (T : Tx K mg)  : Cal P w K mg base "_law_bag" 1 ["_law_script", "_law_at"] (spLBag K) := by
  obtain ⟨fd, F⟩ := T.fn _ fi_Lbag
  have G : FnOk P w K mg base CX0 1 d_Lbag.f fd ["_law_script", "_law_at"] (spLBag K) := by
    refine F.ok sc_Lbag (fun vs H Q E h => ?_) (fun cdv A outer s H vs Q E hr h => ⟨_, PSs.nox (X := cxOf CX0 P w K mg base _ _ _ _ cdv A outer s H E) ((pss_cons (ps_set (i := 2) sc_Lbag.nd rfl (Or.inl rfl) (pe_ifExp (pt_cmpR op_lt (pv 1) (pe_callB (wlen K) (by rfl) T.f_len bb_len (pa_cons (pv 0) pa_nil)) (nomark _)) (pe_ix (wixl K) (pv 0) (pv 1) (fun _ _ => rfl)) pe_int))
    (pss_cons (ps_set (i := 3) sc_Lbag.nd rfl (Or.inl rfl) (pe_ifExp (pt_cmpR op_ge (pe_callB call_abs (by rfl) T.f_abs bb_abs (pa_cons (pv 2) pa_nil)) (pe_op op_pow pe_int pe_int) (nomark _)) (pe_callB call_abs (by rfl) T.f_abs bb_abs (pa_cons (pv 2) pa_nil)) pe_int))
    (pss_one (ps_ret (pe_lst (pa_cons (pv 3) (pa_cons (pe_op op_mod (pe_op op_add (pe_op op_add (pe_op op_mul (pe_op op_mod (pv 2) pe_int) pe_int) (pe_op op_mul pe_int (pv 1))) pe_int) pe_int) (pa_cons pe_int pa_nil))))))))), ?_⟩)
    · obtain ⟨_, _, _, rfl, _⟩ := h
      rfl
    · obtain ⟨a, ns, i, rfl, ha, hi, hi2, k⟩ := h
      have fin : ∀ cell : Int, tSeq
          (tAsg
            (tIf
              (tTest
                (tOp (rI0 fun i j => V.bl (decide (j ≤ i)))
                  (tCB (fun xs H Q => ∃ i, xs = [V.int i] ∧ Q (V.int (if i < 0 then -i else i)) H) (tCons (tVar 2) tNil))
                  (tOp (rI CPow fun i j => V.int (i ^ j.toNat)) (tC (V.int 10)) (tC (V.int 18)))))
              (tCB (fun xs H Q => ∃ i, xs = [V.int i] ∧ Q (V.int (if i < 0 then -i else i)) H) (tCons (tVar 2) tNil))
              (tC (V.int 0)))
            (gName 3))
          (tRet
            (tLst
              (tCons (tVar 3)
                (tCons
                  (tOp (rI (fun x j => 0 < j) fun i j => V.int (i % j))
                    (tOp (rI0 fun i j => V.int (i + j))
                      (tOp (rI0 fun i j => V.int (i + j))
                        (tOp (rI CMul fun i j => V.int (i * j))
                          (tOp (rI (fun x j => 0 < j) fun i j => V.int (i % j)) (tVar 2) (tC (V.int 2147483629)))
                          (tC (V.int 39373)))
                        (tOp (rI CMul fun i j => V.int (i * j)) (tC (V.int 6007)) (tVar 1)))
                      (tC (V.int 211)))
                    (tC (V.int 2147483587)))
                  (tCons (tC (V.int 0)) tNil)))))
          { nx := fun x H' => Q V.non H', rt := Q } [some (.ref a), some (.int i), some (.int cell), none] H := by
        intro cell
        have last : ∀ d : Int, 0 ≤ d → ∀ σ : L2.St, σ = [some (.ref a), some (.int i), some (.int cell), some (.int d)] → tRet
            (tLst
              (tCons (tVar 3)
                (tCons
                  (tOp (rI (fun x j => 0 < j) fun i j => V.int (i % j))
                    (tOp (rI0 fun i j => V.int (i + j))
                      (tOp (rI0 fun i j => V.int (i + j))
                        (tOp (rI CMul fun i j => V.int (i * j))
                          (tOp (rI (fun x j => 0 < j) fun i j => V.int (i % j)) (tVar 2) (tC (V.int 2147483629)))
                          (tC (V.int 39373)))
                        (tOp (rI CMul fun i j => V.int (i * j)) (tC (V.int 6007)) (tVar 1)))
                      (tC (V.int 211)))
                    (tC (V.int 2147483587)))
                  (tCons (tC (V.int 0)) tNil)))) { nx := fun x H' => Q V.non H', rt := Q } σ H := by
          rintro d hd _ rfl
          refine ⟨_, rfl, _, rfl, _, _, rfl, rfl, (by decide : (0 : Int) < 2147483629), _, _, rfl, rfl, .inr ⟨by decide, by decide⟩, _, rfl, _, _, rfl, rfl, .inl ⟨by decide, by decide⟩, _, _, rfl, rfl, _, _, rfl, rfl, _, _, rfl, rfl, (by decide : (0 : Int) < 2147483587), (by decide : 3 ≤ sizeLine), fun b hb => ?_⟩
          exact k b _ (Le.new hb) (.of hb) ⟨_, _, _, upd_same, hd, Int.emod_nonneg _ (by decide), Int.emod_lt_of_pos _ (by decide), Int.le_refl _, Int.le_refl _⟩
        refine ⟨_, rfl, cell, rfl, _, _, rfl, rfl, ⟨by decide, by decide, by decide⟩, _, _, rfl, rfl, _, rfl, ?_⟩
        by_cases hc : (10 : Int) ^ (18 : Int).toNat ≤ (if cell < 0 then -cell else cell)
        · rw [decide_eq_true hc]
          refine iteT ⟨_, rfl, cell, rfl, last _ ?_ _ rfl⟩
          split <;> omega
        · rw [decide_eq_false hc]
          exact iteF (last 0 (Int.le_refl _) _ rfl)
      refine ⟨_, rfl, _, rfl, a, _, rfl, .inl ha, _, _, rfl, rfl, _, rfl, ?_⟩
      rw [List.length_map]
      by_cases hlt : i < (ns.length : Int)
      · rw [decide_eq_true hlt]
        have hin : i.toNat < ns.length := by omega
        refine iteT ⟨_, rfl, _, rfl, a, _, i, .int ns[i.toNat], rfl, rfl, ha, ?_, fin _⟩
        have e := atI_nat (xs := List.map V.int ns) (j := i.toNat) (v := .int ns[i.toNat]) (by rw [List.getElem?_map, List.getElem?_eq_getElem hin]; rfl)
        rw [show ((i.toNat : Nat) : Int) = i by omega] at e
        exact e
      · rw [decide_eq_false hlt]
        exact iteF (fin 0)
  exact ⟨⟨_, fd, G, T.g_Lbag, F.kp, F.bindsN (ps := ["_law_script", "_law_at"]) fun _ _ _ _ _ _ us hl => match us, hl with | [_, _], _ => rfl⟩⟩

theorem sc_Ltake : FnScope ["_law_bag_here", "_law_many", "_law_digit", "_law_mixed"] ["_law_bag_here", "_law_many"] (defScope s_Ltake) := ⟨rfl, rfl, rfl, by decide +kernel, rfl, by decide +kernel, by decide +kernel⟩
theorem ok_Ltake (T : Tx K mg)  : Cal P w K mg base "_law_take" 1 ["_law_bag_here", "_law_many"] spLTake := by
  obtain ⟨fd, F⟩ := T.fn _ fi_Ltake
  have G : FnOk P w K mg base CX0 1 d_Ltake.f fd ["_law_bag_here", "_law_many"] spLTake := by
    refine F.ok sc_Ltake (fun vs H Q E h => ?_) (fun cdv A outer s H vs Q E hr h => ⟨_, PSs.nox (X := cxOf CX0 P w K mg base _ _ _ _ cdv A outer s H E) ((pss_cons (ps_if (pt_cmpR op_gt (pe_ix (wixl K) (pv 0) pe_int (fun _ _ => rfl)) pe_int (nomark _)) (pss_cons (ps_set (i := 2) sc_Ltake.nd rfl (Or.inl rfl) (pe_op op_mod (pe_ix (wixl K) (pv 0) pe_int (fun _ _ => rfl)) (pv 1)))
    (pss_cons (ps_asg (pe_op op_fdiv (pe_ix (wixl K) (pv 0) pe_int (fun _ _ => rfl)) (pv 1)) (pg_sub (pv 0) pe_int set_list))
    (pss_one (ps_ret (pv 2))))) pss_nil)
    (pss_cons (ps_asg (pe_op op_add (pe_ix (wixl K) (pv 0) pe_int (fun _ _ => rfl)) pe_int) (pg_sub (pv 0) pe_int set_list))
    (pss_cons (ps_set (i := 3) sc_Ltake.nd rfl (Or.inl rfl) (pe_op op_mod (pe_op op_pow (pe_op op_add (pe_ix (wixl K) (pv 0) pe_int (fun _ _ => rfl)) (pe_op op_mul pe_int (pe_ix (wixl K) (pv 0) pe_int (fun _ _ => rfl)))) pe_int) pe_int))
    (pss_one (ps_ret (pe_op op_mod (pe_op op_fdiv (pe_op op_mod (pe_op op_pow (pe_op op_add (pv 3) (pe_op op_mul pe_int (pe_ix (wixl K) (pv 0) pe_int (fun _ _ => rfl)))) pe_int) pe_int) pe_int) (pv 1)))))))), ?_⟩)
    · obtain ⟨_, _, _, rfl, _⟩ := h
      rfl
    · obtain ⟨b, N, m, rfl, ⟨x, y, c, hb, B⟩, hN, hm, hm2, k⟩ := h
      refine ⟨_, rfl, b, _, 0, .int x, rfl, rfl, SqL.of hb, rfl, _, _, rfl, rfl, _, rfl, ?_⟩
      by_cases hx : 0 < x
      · rw [decide_eq_true hx]
        refine iteT ⟨_, rfl, b, _, 0, .int x, rfl, rfl, SqL.of hb, rfl, _, rfl, _, _, rfl, rfl, hm, ?_⟩
        refine ⟨_, rfl, b, _, 0, .int x, rfl, rfl, SqL.of hb, rfl, _, rfl, _, _, rfl, rfl, ⟨hm, by omega⟩, _, rfl, ?_⟩
        refine ⟨b, _, 0, 0, rfl, rfl, hb, rfl, _, rfl, ?_⟩
        exact k (x % m) (x / m) y c (Int.emod_nonneg _ (by omega)) (Int.emod_lt_of_pos _ hm) ⟨Int.ediv_nonneg B.x0 (by omega), B.y0, B.y1, B.c0, by have := B.c1; omega⟩
      · rw [decide_eq_false hx]
        have h0 := B.y0
        have h1 := B.y1
        have h2 := B.c0
        have h3 := B.c1
        refine iteF ?_
        refine ⟨_, rfl, b, _, 2, .int c, rfl, rfl, SqL.of hb, rfl, _, _, rfl, rfl, _, rfl, ?_⟩
        refine ⟨b, _, 2, 2, rfl, rfl, hb, rfl, ?_⟩
        have hb2 : upd H b (.lst ([V.int x, V.int y, V.int c].set 2 (V.int (c + 1)))) b = some (bagO x y (c + 1)) := upd_same
        refine ⟨_, rfl, b, _, 1, .int y, rfl, rfl, SqL.of hb2, rfl, _, rfl, b, _, 2, .int (c + 1), rfl, rfl, SqL.of hb2, rfl, _, _, rfl, rfl, .inl ⟨by decide, by decide⟩, _, _, rfl, rfl, _, _, rfl, rfl, ⟨by decide, by decide, by omega⟩, _, _, rfl, rfl, (by decide : (0 : Int) < 2147483579), ?_⟩
        have m0 := Int.emod_nonneg ((y + 61403 * (c + 1)) ^ (3 : Int).toNat) (by decide : (2147483579 : Int) ≠ 0)
        have m1 := Int.emod_lt_of_pos ((y + 61403 * (c + 1)) ^ (3 : Int).toNat) (by decide : (0 : Int) < 2147483579)
        generalize hmx : (y + 61403 * (c + 1)) ^ (3 : Int).toNat % 2147483579 = mx at m0 m1
        show gName 3 _ _ _ _
        refine ⟨_, rfl, _, rfl, b, _, 2, .int (c + 1), rfl, rfl, SqL.of hb2, rfl, _, _, rfl, rfl, .inl ⟨by decide, by decide⟩, _, _, rfl, rfl, _, _, rfl, rfl, ⟨by decide, by decide, by rw [hmx]; omega⟩, _, _, rfl, rfl, (by decide : (0 : Int) < 2147483563), _, _, rfl, rfl, ⟨by decide, by decide⟩, _, rfl, _, _, rfl, rfl, hm, ?_⟩
        exact k _ x y (c + 1) (Int.emod_nonneg _ (by omega)) (Int.emod_lt_of_pos _ hm) ⟨B.x0, h0, h1, by omega, by omega⟩
  exact ⟨⟨_, fd, G, T.g_Ltake, F.kp, F.bindsN (ps := ["_law_bag_here", "_law_many"]) fun _ _ _ _ _ _ us hl => match us, hl with | [_, _], _ => rfl⟩⟩

theorem sc_Lpick : FnScope ["_law_bag_here", "_law_some"] ["_law_bag_here", "_law_some"] (defScope s_Lpick) := ⟨rfl, rfl, rfl, by decide +kernel, rfl, by decide +kernel, by decide +kernel⟩
theorem ok_Lpick (T : Tx K mg) (c_Ltake : Cal P w K mg base "_law_take" 1 ["_law_bag_here", "_law_many"] spLTake) : Cal P w K mg base "_law_pick" 2 ["_law_bag_here", "_law_some"] (spLPick K) := by
  obtain ⟨fd, F⟩ := T.fn _ fi_Lpick
  have G : FnOk P w K mg base CX0 2 d_Lpick.f fd ["_law_bag_here", "_law_some"] (spLPick K) := by
    refine F.ok sc_Lpick (fun vs H Q E h => ?_) (fun cdv A outer s H vs Q E hr h => ⟨_, PSs.nox (X := cxOf CX0 P w K mg base _ _ _ _ cdv A outer s H E) ((pss_one (ps_ret (pe_ix (wixl K) (pv 1) (pc c_Ltake hr rfl (pa_cons (pv 0) (pa_cons (pe_callB (wlen K) (by rfl) T.f_len bb_len (pa_cons (pv 1) pa_nil)) pa_nil))) (fun _ _ => rfl))))), ?_⟩)
    · obtain ⟨_, _, _, _, rfl, _⟩ := h
      rfl
    · obtain ⟨b, N, l, xs, rfl, B, hN, hl, hlb, hne, hz, k⟩ := h
      have hpos : 0 < xs.length := List.length_pos_iff.mpr hne
      refine ⟨_, rfl, _, rfl, _, rfl, l, _, rfl, .inl (SqL.of hl), b, N, _, rfl, B, hN, by omega, by omega, fun r x y c h0 h1 hB => ?_⟩
      have hr : r.toNat < xs.length := by omega
      have hl2 : upd H b (bagO x y c) l = some (.lst xs) := by rw [upd_ne hlb]; exact hl
      refine ⟨l, xs, r, xs[r.toNat], rfl, rfl, SqL.of hl2, ?_, k _ x y c (List.getElem_mem hr) hB⟩
      have e := atI_nat (xs := xs) (j := r.toNat) (v := xs[r.toNat]) (List.getElem?_eq_getElem hr)
      rw [show ((r.toNat : Nat) : Int) = r by omega] at e
      exact e
  exact ⟨⟨_, fd, G, T.g_Lpick, F.kp, F.bindsN (ps := ["_law_bag_here", "_law_some"]) fun _ _ _ _ _ _ us hl => match us, hl with | [_, _], _ => rfl⟩⟩

end
end Sw
set_option linter.all false
set_option maxRecDepth 100000
set_option maxHeartbeats 4000000
/-! SwF21: what a plain world lists. Terms printed by gen_term.py. -/
namespace Sw
open PySem PySem.Spec PyProof.Rows L2 LamX
section
variable {P : Program} {w : World} {K : PySem.W.Frag} {mg : Str → Option Value} {base : Heap}

theorem sc_Llisted : FnScope ["_law_plain", "_law_found", "_law_name", "_law_other"] ["_law_plain"] (defScope s_Llisted) := ⟨rfl, rfl, rfl, by decide +kernel, rfl, by decide +kernel, by decide +kernel⟩
theorem ok_Llisted (T : Tx K mg)  : Cal P w K mg base "_law_listed" 1 ["_law_plain"] spLListed := by
  obtain ⟨fd, F⟩ := T.fn _ fi_Llisted
  have G : FnOk P w K mg base CX0 1 d_Llisted.f fd ["_law_plain"] spLListed := by
    refine F.ok sc_Llisted (fun vs H Q E h => ?_) (fun cdv A outer s H vs Q E hr h => ⟨_, PSs.nox (X := cxOf CX0 P w K mg base _ _ _ _ cdv A outer s H E) ((pss_cons (ps_set (i := 1) sc_Llisted.nd rfl (Or.inl rfl) (pe_lst pa_nil))
    (pss_cons (ps_for PassesOwn.never rfl (wlist K (pe_dget (hu_of hr) (pv 0) pe_str (fun _ _ => rfl))) (pg_name (i := 2) sc_Llisted.nd rfl (Or.inr rfl)) (pss_one (ps_set (i := 1) sc_Llisted.nd rfl (Or.inl rfl) (pe_op op_cat (pv 1) (pe_lc (own := [("_law_other", 3)]) rfl sc_Llisted.nd (wlist K (pe_dget (hu_of hr) (pe_dget (hu_of hr) (pv 0) pe_str (fun _ _ => rfl)) (pv 2) (fun _ _ => rfl))) (blkOk_by (N := ["_law_plain", "_law_found", "_law_name", "_law_other"]) (sc := defScope s_Llisted) (own := [("_law_other", 3)]) (by decide +kernel)) (fun _ _ _ _ _ => (pg_name (i := 3) sc_Llisted.nd rfl (Or.inl rfl))) (fun _ _ _ _ _ => pts_nil) (fun _ _ _ _ _ => (pe_tup (pa_cons (pv 2) (pa_cons (pv 3) pa_nil)))))))))
    (pss_one (ps_ret (pv 1)))))), ?_⟩)
    · obtain ⟨_, _, rfl, _⟩ := h
      rfl
    · obtain ⟨p, U, rfl, PA, ok, k⟩ := h
      obtain ⟨kvs, an, ab, ao, as, ar, ad, al, fb, fs, fo, fl, rv, X⟩ := PA.ex
      refine ⟨(by decide : 0 ≤ sizeLine), fun f0 hf0 => ?_⟩
      have e0 := Le.new (o := .lst []) hf0
      show gName 1 _ _ _ _
      let f : Str → List (Str × Str) := fun n => (U.ls n).map fun o => (n, o)
      have hb : ∀ i, ((U.names.take i).flatMap f).length ≤ 2000 := fun i => by
        have h1 := flat_len f 100 (U.names.take i) fun n hn => by
          show ((U.ls n).map _).length ≤ 100
          rw [List.length_map]
          exact ok.rsz n (List.mem_of_mem_take hn)
        have h2 : (U.names.take i).length ≤ 20 := Nat.le_trans (List.length_take_le' ..) ok.sz
        have h3 := Nat.mul_le_mul_right 100 h2
        omega
      refine ⟨_, rfl, p, _, rfl, dkey (e0.at X.hp) X.k1, an, rfl, ⟨_, SqL.of (e0.at X.hn)⟩, ?_⟩
      refine for_it (ws_list (K := K) (a := an) (l := U.names)) (fun i σ H' => Le H H' ∧ ∃ fa v2 v3, σ = [some (.ref p), some (.ref fa), v2, v3] ∧ RegsAt H' fa ((U.names.take i).flatMap f)) ⟨e0, f0, _, _, rfl, [], upd_same, .nil⟩ (fun i σ H' _ q => SqL.of (q.1.at X.hn)) ?_ ?_
      · rintro i x σ Ha Hb hi ⟨e, fa, v2, v3, rfl, rs, hfa, hrs⟩ ⟨rfl, n, hn, rfl⟩
        have hnn := List.mem_of_getElem? hn
        have hlz := ok.rsz n hnn
        refine ⟨_, rfl, _, rfl, p, _, rfl, dkey (e.at X.hp) X.k7, _, rfl, al, _, rfl, dget_kv (.inl (e.at X.hl)) hnn, fl n, rfl, ⟨_, SqL.of (e.at (X.vl n hnn))⟩, fun D hD => ?_⟩
        refine it_out (ws_list (K := K) (a := fl n) (l := U.ls n)) (fun j H' => Le Hb H' ∧ ∃ ds, H' D = some (.lst ds) ∧ Paired (fun pr v => PairAt H' v pr) (((U.ls n).take j).map fun o => (n, o)) ds) ⟨Le.new hD, [], upd_same, .nil⟩ (fun j H' _ q => SqL.of (q.1.at (e.at (X.vl n hnn)))) ?_ ?_
        · rintro j y Hc Hd hj ⟨e2, ds, hd, hp2⟩ ⟨rfl, w2, hw, rfl⟩
          have hlen := Paired.length hp2
          refine ⟨rfl, _, rfl, _, rfl, (by decide : 2 ≤ sizeLine), fun q hq => ⟨ds, (Le.new hq).at hd, sz5' ?_, (e2.trans (Le.new hq)).mut hD ((Le.new hq).at hd) rfl, _, upd_same, ?_⟩⟩
          · rw [← hlen, List.length_map, List.length_take]
            omega
          · rw [take_snoc hw, List.map_append]
            refine Paired.snoc (Paired.mapP hp2 fun _ _ r => (r.mono (Le.new hq)).monoX LeX.upd ((Le.new hq).at hd)) ⟨q, rfl, ?_⟩
            rw [upd_ne (fun z => by rw [z, hd] at hq; cases hq)]
            exact upd_same
        · rintro Hc ⟨e2, ds, hd, hp2⟩
          rw [List.take_length] at hp2
          have hl1 := Paired.length hrs
          have hl2 := Paired.length hp2
          have hb1 := hb i
          refine ⟨fa, D, rs, ds, rfl, rfl, e2.at hfa, hd, sz5 (by rw [List.length_map] at hl2; omega), fun q hq => ?_⟩
          have e3 := e2.trans (Le.new (o := .lst (rs ++ ds)) hq)
          show gName 1 _ _ _ _
          refine ⟨e.trans e3, q, _, _, rfl, rs ++ ds, upd_same, ?_⟩
          rw [take_snoc hn, List.flatMap_append]
          refine Paired.append (Paired.mapP hrs fun _ _ r => r.mono e3) ?_
          rw [List.flatMap_cons, List.flatMap_nil, List.append_nil]
          exact Paired.mapP hp2 fun _ _ r => r.mono (Le.new hq)
      · rintro σ H' ⟨e, fa, v2, v3, rfl, hr2⟩
        rw [List.take_length] at hr2
        exact ⟨_, rfl, k fa H' e hr2⟩
  exact ⟨⟨_, fd, G, T.g_Llisted, F.kp, F.bindsN (ps := ["_law_plain"]) fun _ _ _ _ _ _ us hl => match us, hl with | [_], _ => rfl⟩⟩

end
end Sw
set_option linter.all false
set_option maxRecDepth 100000
set_option maxHeartbeats 4000000
/-! SwF22: a registration is put into a plain world. Terms printed by gen_term.py. -/
namespace Sw
open PySem PySem.Spec PyProof.Rows L2 LamX
section
variable {P : Program} {w : World} {K : PySem.W.Frag} {mg : Str → Option Value} {base : Heap}


def spLAdmit : Sp := fun vs H Q _ => ∃ p a b kvs al fl, ∃ U : Tb, vs = [.ref p, .str a, .str b] ∧ H p = some (.dK kvs) ∧ valV kvs (Sum.inr "lists") = some (.ref al) ∧ H al = some (.dK (kvR U.names fl)) ∧ a ∈ U.names ∧ H (fl a) = some (.lst (vS (U.ls a))) ∧ (U.ls a).length ≤ 1000 ∧ (b ∈ U.ls a → Q .non H) ∧ (b ∉ U.ls a → Q .non (upd H (fl a) (.lst (vS (U.ls a ++ [b])))))

theorem sc_Ladmit : FnScope ["_law_plain", "_law_name", "_law_other"] ["_law_plain", "_law_name", "_law_other"] (defScope s_Ladmit) := ⟨rfl, rfl, rfl, by decide +kernel, rfl, by decide +kernel, by decide +kernel⟩
theorem ok_Ladmit (T : Tx K mg)  : Cal P w K mg base "_law_admit" 1 ["_law_plain", "_law_name", "_law_other"] spLAdmit := by
  obtain ⟨fd, F⟩ := T.fn _ fi_Ladmit
  have G : FnOk P w K mg base CX0 1 d_Ladmit.f fd ["_law_plain", "_law_name", "_law_other"] spLAdmit := by
    refine F.ok sc_Ladmit (fun vs H Q E h => ?_) (fun cdv A outer s H vs Q E hr h => ⟨_, PSs.nox (X := cxOf CX0 P w K mg base _ _ _ _ cdv A outer s H E) ((pss_one (ps_if (pt_cmpR (wnin K) (pv 2) (pe_dget (hu_of hr) (pe_dget (hu_of hr) (pv 0) pe_str (fun _ _ => rfl)) (pv 1) (fun _ _ => rfl)) rfl) (pss_one (ps_expr (wapp K (pe_dget (hu_of hr) (pe_dget (hu_of hr) (pv 0) pe_str (fun _ _ => rfl)) (pv 1) (fun _ _ => rfl)) (pv 2)))) pss_nil))), ?_⟩)
    · obtain ⟨_, _, _, _, _, _, _, rfl, _⟩ := h
      rfl
    · obtain ⟨p, a, b, kvs, al, fl, U, rfl, hp, k7, hl, ha, hla, hz, k1, k2⟩ := h
      refine ⟨_, rfl, _, rfl, p, _, rfl, dkey hp k7, _, rfl, al, _, rfl, dget_kv (.inl hl) ha, fl a, _, rfl, .inl (SqL.of hla), rfl, vS_flat _, ?_⟩
      rw [inV_vS]
      cases hq : (U.ls a).contains b with
      | true => exact ⟨_, rfl, iteF (k1 (List.contains_iff_mem.mp hq))⟩
      | false =>
        refine ⟨_, rfl, iteT ⟨_, rfl, p, _, rfl, dkey hp k7, _, rfl, al, _, rfl, dget_kv (.inl hl) ha, .inl ⟨rfl, _, SqL.of hla⟩, _, rfl, ?_⟩⟩
        have q := k2 (fun z => by rw [List.contains_iff_mem.mpr z] at hq; cases hq)
        refine ⟨fl a, _, _, rfl, rfl, hla, sz5' (by rw [vS_len]; omega), ?_⟩
        rw [vS_app] at q
        exact q
  exact ⟨⟨_, fd, G, T.g_Ladmit, F.kp, F.bindsN (ps := ["_law_plain", "_law_name", "_law_other"]) fun _ _ _ _ _ _ us hl => match us, hl with | [_, _, _], _ => rfl⟩⟩

end
end Sw
set_option linter.all false
set_option maxRecDepth 100000
set_option maxHeartbeats 4000000
/-! SwF23: plain worlds of one's own. Terms printed by gen_term.py. -/
namespace Sw
open PySem PySem.Spec PyProof.Rows L2 LamX
section
variable {P : Program} {w : World} {K : PySem.W.Frag} {mg : Str → Option Value} {base : Heap}


/-- a plain world that is one's own, made behind H0 -/
structure PlnO (H0 : Hp) (p : Addr) (U : Tb) (an ab ao as ar ad al : Addr) (fb fs fo fl : Str → Addr) : Prop where
  fp : FreB H0 p
  fan : FreB H0 an
  fab : FreB H0 ab
  fao : FreB H0 ao
  fas : FreB H0 as
  far : FreB H0 ar
  fad : FreB H0 ad
  fal : FreB H0 al
  ffl : ∀ n ∈ U.names, FreB H0 (fl n)
  dst : [p, ab, ao, as, ar, ad, al].Nodup
  sfs : ∀ n ∈ U.names, fs n ∉ [p, ab, ao, as, ar, ad, al]
  sfl : ∀ n ∈ U.names, ∀ m ∈ U.names, fl n = fl m → n = m
  slb : ∀ n ∈ U.names, ∀ m ∈ U.names, fl n ≠ fb m
  slo : ∀ n ∈ U.names, ∀ m ∈ U.names, fl n ≠ fo m
  sla : ∀ n ∈ U.names, fl n ≠ an
  sba : ∀ n ∈ U.names, fb n ≠ an
  soa : ∀ n ∈ U.names, fo n ≠ an
structure PlnF (H0 H : Hp) (p : Addr) (U : Tb) : Prop where
  ex : ∃ kvs an ab ao as ar ad al fb fs fo fl rv, PlnX H p U kvs an ab ao as ar ad al fb fs fo fl rv ∧ PlnO H0 p U an ab ao as ar ad al fb fs fo fl
theorem PlnF.at_ {H0 H : Hp} {p : Addr} {U : Tb} (h : PlnF H0 H p U) : PlnAt H p U := by
  obtain ⟨kvs, an, ab, ao, as, ar, ad, al, fb, fs, fo, fl, rv, X, _⟩ := h.ex
  exact ⟨kvs, an, ab, ao, as, ar, ad, al, fb, fs, fo, fl, rv, X⟩
theorem PlnF.monoB {H0 H H' : Hp} {p : Addr} {U : Tb} (h : PlnF H0 H p U) (e : LeB H H') : PlnF H0 H' p U := by
  obtain ⟨kvs, an, ab, ao, as, ar, ad, al, fb, fs, fo, fl, rv, X, O⟩ := h.ex
  exact ⟨kvs, an, ab, ao, as, ar, ad, al, fb, fs, fo, fl, rv, X.monoB e, O⟩
def spLNew : Sp := fun vs H Q _ => vs = [] ∧ ∀ p H', Le H H' → PlnF H H' p emptyT → Q (.ref p) H'

theorem sc_Lnew : FnScope [] [] (defScope s_Lnew) := ⟨rfl, rfl, rfl, by decide +kernel, rfl, by decide +kernel, by decide +kernel⟩
theorem ok_Lnew (T : Tx K mg)  : Cal P w K mg base "_law_new" 1 [] spLNew := by
  obtain ⟨fd, F⟩ := T.fn _ fi_Lnew
  have G : FnOk P w K mg base CX0 1 d_Lnew.f fd [] spLNew := by
    refine F.ok sc_Lnew (fun vs H Q E h => ?_) (fun cdv A outer s H vs Q E hr h => ⟨_, PSs.nox (X := cxOf CX0 P w K mg base _ _ _ _ cdv A outer s H E) ((pss_one (ps_ret (pe_disp (pps_cons pe_str (pe_lst pa_nil) (pps_cons pe_str pe_dnewK (pps_cons pe_str pe_dnewK (pps_cons pe_str pe_dnewK (pps_cons pe_str pe_dnewK (pps_cons pe_str pe_dnewK (pps_cons pe_str pe_dnewK pps_nil))))))) (by rfl) (by rfl) (fun z => by cases z) (by decide))))), ?_⟩)
    · obtain ⟨rfl, _⟩ := h
      rfl
    · obtain ⟨rfl, k⟩ := h
      refine fun p hp => ⟨(by decide : 0 ≤ sizeLine), fun an han => fun ab hab =>  fun ao hao =>  fun as has =>  fun ar har =>  fun ad had =>  fun al hal => ⟨?_, [(Sum.inr "names", .ref an), (Sum.inr "bases", .ref ab), (Sum.inr "own", .ref ao), (Sum.inr "signs", .ref as), (Sum.inr "rules", .ref ar), (Sum.inr "order", .ref ad), (Sum.inr "lists", .ref al)], rfl, (by decide : 7 ≤ 15), ?_⟩⟩
      · have e0 := Le.new (o := .dK []) hp
        have e1 := Le.new (o := .lst []) han
        have e2 := Le.new (o := .dK []) hab
        have e3 := Le.new (o := .dK []) hao
        have e4 := Le.new (o := .dK []) has
        have e5 := Le.new (o := .dK []) har
        have e6 := Le.new (o := .dK []) had
        have e7 := Le.new (o := .dK []) hal
        exact ((((((e1.trans e2).trans e3).trans e4).trans e5).trans e6).trans e7).at upd_same
      have e0 := Le.new (o := .dK []) hp
      have e1 := Le.new (o := .lst []) han
      have e2 := Le.new (o := .dK []) hab
      have e3 := Le.new (o := .dK []) hao
      have e4 := Le.new (o := .dK []) has
      have e5 := Le.new (o := .dK []) har
      have e6 := Le.new (o := .dK []) had
      have e7 := Le.new (o := .dK []) hal
      have gan : (upd (upd (upd (upd (upd (upd (upd (upd H p (.dK [])) an (.lst [])) ab (.dK [])) ao (.dK [])) as (.dK [])) ar (.dK [])) ad (.dK [])) al (.dK [])) an = some (.lst []) := (((((e2.trans e3).trans e4).trans e5).trans e6).trans e7).at upd_same
      have gab : (upd (upd (upd (upd (upd (upd (upd (upd H p (.dK [])) an (.lst [])) ab (.dK [])) ao (.dK [])) as (.dK [])) ar (.dK [])) ad (.dK [])) al (.dK [])) ab = some (.dK []) := ((((e3.trans e4).trans e5).trans e6).trans e7).at upd_same
      have gao : (upd (upd (upd (upd (upd (upd (upd (upd H p (.dK [])) an (.lst [])) ab (.dK [])) ao (.dK [])) as (.dK [])) ar (.dK [])) ad (.dK [])) al (.dK [])) ao = some (.dK []) := (((e4.trans e5).trans e6).trans e7).at upd_same
      have gas : (upd (upd (upd (upd (upd (upd (upd (upd H p (.dK [])) an (.lst [])) ab (.dK [])) ao (.dK [])) as (.dK [])) ar (.dK [])) ad (.dK [])) al (.dK [])) as = some (.dK []) := ((e5.trans e6).trans e7).at upd_same
      have gar : (upd (upd (upd (upd (upd (upd (upd (upd H p (.dK [])) an (.lst [])) ab (.dK [])) ao (.dK [])) as (.dK [])) ar (.dK [])) ad (.dK [])) al (.dK [])) ar = some (.dK []) := (e6.trans e7).at upd_same
      have gad : (upd (upd (upd (upd (upd (upd (upd (upd H p (.dK [])) an (.lst [])) ab (.dK [])) ao (.dK [])) as (.dK [])) ar (.dK [])) ad (.dK [])) al (.dK [])) ad = some (.dK []) := e7.at upd_same
      have gal : (upd (upd (upd (upd (upd (upd (upd (upd H p (.dK [])) an (.lst [])) ab (.dK [])) ao (.dK [])) as (.dK [])) ar (.dK [])) ad (.dK [])) al (.dK [])) al = some (.dK []) := upd_same
      have gp : (upd (upd (upd (upd (upd (upd (upd (upd H p (.dK [])) an (.lst [])) ab (.dK [])) ao (.dK [])) as (.dK [])) ar (.dK [])) ad (.dK [])) al (.dK [])) p = some (.dK []) := ((((((e1.trans e2).trans e3).trans e4).trans e5).trans e6).trans e7).at upd_same
      have n_p_ab : p ≠ ab := ne_of_none (show (upd (upd H p (.dK [])) an (.lst [])) p = some (.dK []) from e1.at upd_same) hab
      have n_p_ao : p ≠ ao := ne_of_none (show (upd (upd (upd H p (.dK [])) an (.lst [])) ab (.dK [])) p = some (.dK []) from (e1.trans e2).at upd_same) hao
      have n_p_as : p ≠ as := ne_of_none (show (upd (upd (upd (upd H p (.dK [])) an (.lst [])) ab (.dK [])) ao (.dK [])) p = some (.dK []) from ((e1.trans e2).trans e3).at upd_same) has
      have n_p_ar : p ≠ ar := ne_of_none (show (upd (upd (upd (upd (upd H p (.dK [])) an (.lst [])) ab (.dK [])) ao (.dK [])) as (.dK [])) p = some (.dK []) from (((e1.trans e2).trans e3).trans e4).at upd_same) har
      have n_p_ad : p ≠ ad := ne_of_none (show (upd (upd (upd (upd (upd (upd H p (.dK [])) an (.lst [])) ab (.dK [])) ao (.dK [])) as (.dK [])) ar (.dK [])) p = some (.dK []) from ((((e1.trans e2).trans e3).trans e4).trans e5).at upd_same) had
      have n_p_al : p ≠ al := ne_of_none (show (upd (upd (upd (upd (upd (upd (upd H p (.dK [])) an (.lst [])) ab (.dK [])) ao (.dK [])) as (.dK [])) ar (.dK [])) ad (.dK [])) p = some (.dK []) from (((((e1.trans e2).trans e3).trans e4).trans e5).trans e6).at upd_same) hal
      have n_ab_ao : ab ≠ ao := ne_of_none (show (upd (upd (upd H p (.dK [])) an (.lst [])) ab (.dK [])) ab = some (.dK []) from upd_same) hao
      have n_ab_as : ab ≠ as := ne_of_none (show (upd (upd (upd (upd H p (.dK [])) an (.lst [])) ab (.dK [])) ao (.dK [])) ab = some (.dK []) from e3.at upd_same) has
      have n_ab_ar : ab ≠ ar := ne_of_none (show (upd (upd (upd (upd (upd H p (.dK [])) an (.lst [])) ab (.dK [])) ao (.dK [])) as (.dK [])) ab = some (.dK []) from (e3.trans e4).at upd_same) har
      have n_ab_ad : ab ≠ ad := ne_of_none (show (upd (upd (upd (upd (upd (upd H p (.dK [])) an (.lst [])) ab (.dK [])) ao (.dK [])) as (.dK [])) ar (.dK [])) ab = some (.dK []) from ((e3.trans e4).trans e5).at upd_same) had
      have n_ab_al : ab ≠ al := ne_of_none (show (upd (upd (upd (upd (upd (upd (upd H p (.dK [])) an (.lst [])) ab (.dK [])) ao (.dK [])) as (.dK [])) ar (.dK [])) ad (.dK [])) ab = some (.dK []) from (((e3.trans e4).trans e5).trans e6).at upd_same) hal
      have n_ao_as : ao ≠ as := ne_of_none (show (upd (upd (upd (upd H p (.dK [])) an (.lst [])) ab (.dK [])) ao (.dK [])) ao = some (.dK []) from upd_same) has
      have n_ao_ar : ao ≠ ar := ne_of_none (show (upd (upd (upd (upd (upd H p (.dK [])) an (.lst [])) ab (.dK [])) ao (.dK [])) as (.dK [])) ao = some (.dK []) from e4.at upd_same) har
      have n_ao_ad : ao ≠ ad := ne_of_none (show (upd (upd (upd (upd (upd (upd H p (.dK [])) an (.lst [])) ab (.dK [])) ao (.dK [])) as (.dK [])) ar (.dK [])) ao = some (.dK []) from (e4.trans e5).at upd_same) had
      have n_ao_al : ao ≠ al := ne_of_none (show (upd (upd (upd (upd (upd (upd (upd H p (.dK [])) an (.lst [])) ab (.dK [])) ao (.dK [])) as (.dK [])) ar (.dK [])) ad (.dK [])) ao = some (.dK []) from ((e4.trans e5).trans e6).at upd_same) hal
      have n_as_ar : as ≠ ar := ne_of_none (show (upd (upd (upd (upd (upd H p (.dK [])) an (.lst [])) ab (.dK [])) ao (.dK [])) as (.dK [])) as = some (.dK []) from upd_same) har
      have n_as_ad : as ≠ ad := ne_of_none (show (upd (upd (upd (upd (upd (upd H p (.dK [])) an (.lst [])) ab (.dK [])) ao (.dK [])) as (.dK [])) ar (.dK [])) as = some (.dK []) from e5.at upd_same) had
      have n_as_al : as ≠ al := ne_of_none (show (upd (upd (upd (upd (upd (upd (upd H p (.dK [])) an (.lst [])) ab (.dK [])) ao (.dK [])) as (.dK [])) ar (.dK [])) ad (.dK [])) as = some (.dK []) from (e5.trans e6).at upd_same) hal
      have n_ar_ad : ar ≠ ad := ne_of_none (show (upd (upd (upd (upd (upd (upd H p (.dK [])) an (.lst [])) ab (.dK [])) ao (.dK [])) as (.dK [])) ar (.dK [])) ar = some (.dK []) from upd_same) had
      have n_ar_al : ar ≠ al := ne_of_none (show (upd (upd (upd (upd (upd (upd (upd H p (.dK [])) an (.lst [])) ab (.dK [])) ao (.dK [])) as (.dK [])) ar (.dK [])) ad (.dK [])) ar = some (.dK []) from e6.at upd_same) hal
      have n_ad_al : ad ≠ al := ne_of_none (show (upd (upd (upd (upd (upd (upd (upd H p (.dK [])) an (.lst [])) ab (.dK [])) ao (.dK [])) as (.dK [])) ar (.dK [])) ad (.dK [])) ad = some (.dK []) from upd_same) hal
      have n_an : an ≠ p := (ne_of_none (show (upd H p (.dK [])) p = some (.dK []) from upd_same) han).symm
      have E := ((e0.trans ((((((e1.trans e2).trans e3).trans e4).trans e5).trans e6).trans e7)).mutF (o := .dK (mergeK [] [(Sum.inr "names", .ref an), (Sum.inr "bases", .ref ab), (Sum.inr "own", .ref ao), (Sum.inr "signs", .ref as), (Sum.inr "rules", .ref ar), (Sum.inr "order", .ref ad), (Sum.inr "lists", .ref al)])) (.of hp) gp rfl)
      refine k p _ E ⟨_, an, ab, ao, as, ar, ad, al, fun _ => 0, fun _ => 0, fun _ => 0, fun _ => 0, fun _ => .non, ⟨upd_same, by kernel_rfl, by kernel_rfl, by kernel_rfl, by kernel_rfl, by kernel_rfl, by kernel_rfl, by kernel_rfl, (upd_ne n_an).trans gan, (upd_ne n_p_ab.symm).trans gab, (upd_ne n_p_ao.symm).trans gao, (upd_ne n_p_as.symm).trans gas, (upd_ne n_p_ar.symm).trans gar, (upd_ne n_p_ad.symm).trans gad, (upd_ne n_p_al.symm).trans gal, fun n hn => (by cases hn), fun n hn => (by cases hn), fun n hn => (by cases hn), fun n hn => (by cases hn), fun n hn => (by cases hn)⟩, ⟨(Fre.of hp).b, ((e0).fr0 han).b, (((e0.trans e1)).fr0 hab).b, ((((e0.trans e1).trans e2)).fr0 hao).b, (((((e0.trans e1).trans e2).trans e3)).fr0 has).b, ((((((e0.trans e1).trans e2).trans e3).trans e4)).fr0 har).b, (((((((e0.trans e1).trans e2).trans e3).trans e4).trans e5)).fr0 had).b, ((((((((e0.trans e1).trans e2).trans e3).trans e4).trans e5).trans e6)).fr0 hal).b, fun n hn => (by cases hn), ?_, fun n hn => (by cases hn), fun n hn => (by cases hn), fun n hn => (by cases hn), fun n hn => (by cases hn), fun n hn => (by cases hn), fun n hn => (by cases hn), fun n hn => (by cases hn)⟩⟩
      simp only [List.nodup_cons, List.mem_cons, List.not_mem_nil, or_false, not_or, List.nodup_nil, and_true, not_false_eq_true]
      exact ⟨⟨n_p_ab, n_p_ao, n_p_as, n_p_ar, n_p_ad, n_p_al⟩, ⟨n_ab_ao, n_ab_as, n_ab_ar, n_ab_ad, n_ab_al⟩, ⟨n_ao_as, n_ao_ar, n_ao_ad, n_ao_al⟩, ⟨n_as_ar, n_as_ad, n_as_al⟩, ⟨n_ar_ad, n_ar_al⟩, n_ad_al⟩
  exact ⟨⟨_, fd, G, T.g_Lnew, F.kp, F.bindsN (ps := []) fun _ _ _ _ _ _ us hl => match us, hl with | [], _ => rfl⟩⟩

end
end Sw
set_option linter.all false
set_option maxRecDepth 100000
set_option maxHeartbeats 4000000
/-! SwF29: the law's merge. Terms printed by gen_term.py. -/
namespace Sw
open PySem PySem.Spec PyProof.Rows L2 LamX
section
variable {P : Program} {w : World} {K : PySem.W.Frag} {mg : Str → Option Value} {base : Heap}


def spLMerge : Sp := fun vs H Q _ => ∃ l ls, vs = [.ref l] ∧ LLAt H l ls ∧ ls.length ≤ 10 ∧ tot ls ≤ 100 ∧ (∀ r ∈ ls, ∀ x ∈ r, x ∈ Tb.NAMES) ∧ ∀ v H', Le H H' → OrdAt H' v (mrg ls) → (∀ p, v = .ref p → Fre H p) → Q v H'
theorem heads_ne (ws : List (List Str)) : heads (ws.filter fun r => !r.isEmpty) = heads ws := by
  unfold heads
  induction ws with
  | nil => rfl
  | cons r ws ih =>
    cases r with
    | nil => rw [List.filter_cons, List.filterMap_cons]; simpa using ih
    | cons a r => rw [List.filter_cons, if_pos (by rfl), List.filterMap_cons, List.filterMap_cons, ih]
theorem canBe_ne (ws : List (List Str)) (x : Str) : canBe (ws.filter fun r => !r.isEmpty) x = canBe ws x := by
  unfold canBe
  induction ws with
  | nil => rfl
  | cons r ws ih =>
    cases r with
    | nil => rw [List.filter_cons]; simpa using ih
    | cons a r => rw [List.filter_cons, if_pos (by rfl), List.all_cons, List.all_cons, ih]
theorem pick_good (ws : List (List Str)) : pick (ws.filter fun r => !r.isEmpty) = ((heads ws).filter (canBe ws)).head? := by
  unfold pick
  rw [heads_ne, show canBe (ws.filter fun r => !r.isEmpty) = canBe ws from funext (canBe_ne ws), List.head?_filter]
theorem filt_cong {α : Type} {p : α → Bool} (z : α) (l l' : List α) (h : l.filter p = l'.filter p) : (z :: l).filter p = (z :: l').filter p := by rw [List.filter_cons, List.filter_cons, h]
theorem clean_ne (y : Str) (ws : List (List Str)) : clean y (ws.filter fun r => !r.isEmpty) = (ws.map fun r => r.filter fun x => !decide (x = y)).filter fun r => !r.isEmpty := by
  unfold clean
  induction ws with
  | nil => rfl
  | cons r ws ih =>
    cases r with
    | nil => rw [List.filter_cons]; simpa using ih
    | cons a r =>
      rw [List.filter_cons, if_pos (by rfl), List.map_cons, List.map_cons]
      exact filt_cong _ _ _ ih
theorem heads_filt (ws : List (List Str)) : heads ws = (ws.filter fun r => !r.isEmpty).map fun r => r.headD "" := by
  unfold heads
  induction ws with
  | nil => rfl
  | cons r ws ih =>
    cases r with
    | nil => rw [List.filter_cons, List.filterMap_cons]; simpa using ih
    | cons a r => rw [List.filter_cons, if_pos (by rfl), List.filterMap_cons, List.map_cons, ih]; rfl
theorem cut1 (r : List Str) : cutV (vS r) (some 1) none = vS (r.drop 1) := by
  unfold cutV
  rw [show HT.sIx (vS r).length 0 (some 1) = min 1 (vS r).length from HT.sIx_nat _ _ 1, HT.sIx_none]
  cases r with
  | nil => rfl
  | cons a r =>
    have : min 1 (vS (a :: r)).length = 1 := by rw [vS_len, List.length_cons]; omega
    rw [this]
    show (vS r).take ((vS (a :: r)).length - 1) = vS r
    rw [List.take_of_length_le]
    rw [vS_len, vS_len, List.length_cons]
    omega
theorem any_canBe (ws : List (List Str)) (x : Str) : (!(ws.map fun r => (r.drop 1).contains x).any id) = canBe ws x := by
  unfold canBe
  rw [List.any_map]
  induction ws with
  | nil => rfl
  | cons r ws ih => rw [List.any_cons, List.all_cons, Bool.not_or, ih]; rfl

theorem sc_Lmerge : FnScope ["_law_lists", "_law_left", "_law_found", "_law_heads", "_law_good", "_law_one", "_law_head", "_law_other"] ["_law_lists"] (defScope s_Lmerge) := ⟨rfl, rfl, rfl, by decide +kernel, rfl, by decide +kernel, by decide +kernel⟩
theorem ok_Lmerge (T : Tx K mg)  : Cal P w K mg base "_law_merge" 1 ["_law_lists"] spLMerge := by
  obtain ⟨fd, F⟩ := T.fn _ fi_Lmerge
  have G : FnOk P w K mg base CX0 1 d_Lmerge.f fd ["_law_lists"] spLMerge := by
    refine F.ok sc_Lmerge (fun vs H Q E h => ?_) (fun cdv A outer s H vs Q E hr h => ⟨_, PSs.nox (X := cxOf CX0 P w K mg base _ _ _ _ cdv A outer s H E) ((pss_cons (ps_asg (pe_tup (pa_cons (pe_lc (own := [("_law_one", 5)]) rfl sc_Lmerge.nd (wlist K (pv 0)) (blkOk_by (N := ["_law_lists", "_law_left", "_law_found", "_law_heads", "_law_good", "_law_one", "_law_head", "_law_other"]) (sc := defScope s_Lmerge) (own := [("_law_one", 5)]) (by decide +kernel)) (fun _ _ _ _ _ => (pg_name (i := 5) sc_Lmerge.nd rfl (Or.inl rfl))) (fun _ _ _ _ _ => pts_nil) (fun _ _ _ _ _ => (pe_callTy (wlistof K) (by rfl) T.f_list bb_list (pa_cons (pv 5) pa_nil)))) (pa_cons (pe_lst pa_nil) pa_nil))) (wtup (n := 2) K rfl (pgs_cons (pg_name (i := 1) sc_Lmerge.nd rfl (Or.inr rfl)) (pgs_cons (pg_name (i := 2) sc_Lmerge.nd rfl (Or.inl rfl)) pgs_nil))))
    (pss_cons (ps_while PassesOwn.never (pt_cmpR (wne K hr.units) (pe_lc (own := [("_law_one", 5)]) rfl sc_Lmerge.nd (wlist K (pv 1)) (blkOk_by (N := ["_law_lists", "_law_left", "_law_found", "_law_heads", "_law_good", "_law_one", "_law_head", "_law_other"]) (sc := defScope s_Lmerge) (own := [("_law_one", 5)]) (by decide +kernel)) (fun _ _ _ _ _ => (pg_name (i := 5) sc_Lmerge.nd rfl (Or.inl rfl))) (fun _ _ _ _ _ => (pts_one (pt_cmpR (wne K hr.units) (pv 5) (pe_lst pa_nil) (nomark _)))) (fun _ _ _ _ _ => (pv 5))) (pe_lst pa_nil) (nomark _)) (pss_cons (ps_setLc (i := 3) (own := [("_law_one", 5)]) rfl sc_Lmerge.nd rfl rfl (sw_true rfl rfl rfl (by decide +kernel)) (wlist K (pv 1)) (blkOk_by (N := ["_law_lists", "_law_left", "_law_found", "_law_heads", "_law_good", "_law_one", "_law_head", "_law_other"]) (sc := defScope s_Lmerge) (own := [("_law_one", 5)]) (by decide +kernel)) (fun _ _ _ _ _ => (pg_name (i := 5) sc_Lmerge.nd rfl (Or.inl rfl))) (fun _ _ _ _ _ => (pts_one (pt_cmpR (wne K hr.units) (pv 5) (pe_lst pa_nil) (nomark _)))) (fun _ _ _ _ _ => (pe_ix (wixl K) (pv 5) pe_int (fun _ _ => rfl))))
    (pss_cons (ps_set (i := 4) sc_Lmerge.nd rfl (Or.inr rfl) (pe_lc (own := [("_law_head", 6)]) rfl sc_Lmerge.nd (wlist K (pv 3)) (blkOk_by (N := ["_law_lists", "_law_left", "_law_found", "_law_heads", "_law_good", "_law_one", "_law_head", "_law_other"]) (sc := defScope s_Lmerge) (own := [("_law_head", 6)]) (by decide +kernel)) (fun _ _ _ _ _ => (pg_name (i := 6) sc_Lmerge.nd rfl (Or.inr rfl))) (fun _ _ _ _ _ => (pts_one (pt_not (pt_val (pe_callB (wany K rfl) (by rfl) T.f_any bb_any (pa_cons (pe_lc (own := [("_law_one", 5)]) rfl sc_Lmerge.nd (wlist K (pv 1)) (blkOk_by (N := ["_law_lists", "_law_left", "_law_found", "_law_heads", "_law_good", "_law_one", "_law_head", "_law_other"]) (sc := (relS ({ kind := .function, names := [(".0", .local), ("_law_head", .cell), ("any", .globalImplicit), ("_law_left", .free)], isGenerator := false, isCoroutine := false } : Scope) (defScope s_Lmerge))) (own := [("_law_one", 5)]) (by decide +kernel)) (fun _ _ _ _ _ => (pg_name (i := 5) sc_Lmerge.nd rfl (Or.inl rfl))) (fun _ _ _ _ _ => pts_nil) (fun _ _ _ _ _ => (pe_cmpR (win K) (pv 6) (pe_slice (wsll K) (pv 5) (po_some pe_int) po_none) rfl))) pa_nil)))))) (fun _ _ _ _ _ => (pv 6))))
    (pss_cons (ps_if (pt_cmpR (weq K hr.units) (pv 4) (pe_lst pa_nil) (nomark _)) (pss_one (ps_ret pe_non)) pss_nil)
    (pss_cons (ps_expr (wapp K (pv 2) (pe_ix (wixl K) (pv 4) pe_int (fun _ _ => rfl))))
    (pss_one (ps_set (i := 1) sc_Lmerge.nd rfl (Or.inr rfl) (pe_lc (own := [("_law_one", 5)]) rfl sc_Lmerge.nd (wlist K (pv 1)) (blkOk_by (N := ["_law_lists", "_law_left", "_law_found", "_law_heads", "_law_good", "_law_one", "_law_head", "_law_other"]) (sc := defScope s_Lmerge) (own := [("_law_one", 5)]) (by decide +kernel)) (fun _ _ _ _ _ => (pg_name (i := 5) sc_Lmerge.nd rfl (Or.inl rfl))) (fun _ _ _ _ _ => pts_nil) (fun _ _ _ _ _ => (pe_lc (own := [("_law_other", 7)]) rfl sc_Lmerge.nd (wlist K (pv 5)) (blkOk_by (N := ["_law_lists", "_law_left", "_law_found", "_law_heads", "_law_good", "_law_one", "_law_head", "_law_other"]) (sc := (relS ({ kind := .function, names := [(".0", .local), ("_law_one", .local), ("_law_good", .free)], isGenerator := false, isCoroutine := false } : Scope) (defScope s_Lmerge))) (own := [("_law_other", 7)]) (by decide +kernel)) (fun _ _ _ _ _ => (pg_name (i := 7) sc_Lmerge.nd rfl (Or.inl rfl))) (fun _ _ _ _ _ => (pts_one (pt_cmpR op_ne (pv 7) (pe_ix (wixl K) (pv 4) pe_int (fun _ _ => rfl)) (nomark _)))) (fun _ _ _ _ _ => (pv 7))))))))))))
    (pss_one (ps_ret (pv 2)))))), ?_⟩)
    · obtain ⟨_, _, rfl, _⟩ := h
      rfl
    · obtain ⟨l, ls, rfl, ⟨rs, hl, hp⟩, hz, htz, hnm, k⟩ := h
      have hlen := Paired.length hp
      have hok : ∀ r ∈ ls, ∀ x ∈ r, PyData.strOk x = true := fun r hr x hx => nm_ok (hnm r hr x hx)
      refine ⟨_, rfl, l, rfl, ⟨rs, SqL.of hl⟩, fun D hD => ?_⟩
      refine lc_go (walk_list (K := K) (a := l) (xs := rs)) (fun D i y H' => ∃ r, ls[i]? = some r ∧ ∃ a, y = .ref a ∧ a ≠ D ∧ H' a = some (.lst (vS r))) (fun _ => true) (by omega) hD (fun i H x H' y => by rw [y.1]; exact Le.refl _) (fun H' e => SqL.of (e.at hl)) ?_ ?_ ?_
      · rintro j y Hc Hd eX ⟨r, h1, a, h2, h3, h4⟩
        exact ⟨r, h1, a, h2, h3, eX.at h3 h4⟩
      · rintro i x Ha Hb hi e1 e2 ⟨rfl, hx⟩ ⟨ys, hys⟩ QF QT h1 h2
        have hil : i < ls.length := by omega
        obtain ⟨b, hb, a, rfl, ha⟩ := Paired.at hp (List.getElem?_eq_getElem hil)
        rw [hx] at hb
        cases hb
        have ha1 := e2.at ha
        refine ⟨rfl, _, rfl, a, _, rfl, .inl (SqL.of ha1), fun n hn => h2 _ _ (Le.new hn) rfl ⟨_, List.getElem?_eq_getElem hil, n, rfl, fun z => ?_, upd_same⟩⟩
        rw [z, hys] at hn
        cases hn
      · intro ys H1 e1 hD1 hg
        have hp1 : Paired (fun r v => RdAt H1 v r) ls ys := by
          have q := hg
          unfold Got at q
          exact got_all (l := ls) (R := fun r v => RdAt H1 v r) (fun _ => rfl) hlen.symm (Paired.mapP q fun i y ⟨r, g1, a, g2, _, g3⟩ => ⟨r, g1, a, g2, g3⟩)
        refine ⟨(by decide : 0 ≤ sizeLine), fun f hf => ⟨(by decide : 2 ≤ sizeLine), fun tp htp => ⟨tp, _, rfl, SqT.of upd_same, rfl, _, _, rfl, _, _, rfl, rfl, ?_⟩⟩⟩
        have ef := Le.new (o := .lst []) hf
        have et := Le.new (o := .tup [V.ref D, V.ref f]) htp
        have ffr : Fre H f := e1.fr0 hf
        have LW0 : LLF (upd (upd H1 f (.lst [])) tp (.tup [V.ref D, V.ref f])) f D ls := (LLF.of hf ⟨ys, hD1, hp1⟩).mono et
        have hf0 : (upd (upd H1 f (.lst [])) tp (.tup [V.ref D, V.ref f])) f = some (.lst (vS [])) := et.at upd_same
        have e0 := (e1.trans ef).trans et
        generalize upd (upd H1 f (.lst [])) tp (.tup [V.ref D, V.ref f]) = H0 at LW0 hf0 e0
        refine ⟨fun q σ Hc => ∃ w fs ws v3 v4 v5 v6 v7, σ = [some (.ref l), some (.ref w), some (.ref f), v3, v4, v5, v6, v7] ∧ Le H Hc ∧ LLF Hc f w ws ∧ Hc f = some (.lst (vS fs)) ∧ MrgI ls fs (ws.filter fun r => !r.isEmpty) q ∧ ws.length ≤ 10 ∧ ∀ r ∈ ws, r.length ≤ 100, ⟨_, D, [], ls, none, none, none, none, none, rfl, e0, LW0, hf0, MrgI.start ls, hz, fun r hr => Nat.le_trans (tot_mem hr) htz⟩, ?_⟩
        rintro q σ Hc ⟨w, fs, ws, v3, v4, v5, v6, v7, rfl, e2, LW, hfc, M, hwz, hws⟩
        obtain ⟨ws', hw, hpw⟩ := LW.ll
        have hwl := Paired.length hpw
        have hsz := M.sz
        have hokw : ∀ r ∈ ws, ∀ x ∈ r, PyData.strOk x = true := fun r hr x hx => by
          have hr2 : r ∈ ws.filter fun r => !r.isEmpty := List.mem_filter.mpr ⟨hr, by cases r with | nil => cases hx | cons => rfl⟩
          obtain ⟨r2, h1, h2⟩ := M.mem r hr2 x hx
          exact hok r2 h1 x h2
        -- the test's comprehension
        refine ⟨_, rfl, w, rfl, ⟨ws', SqL.of hw⟩, fun D1 hD1' => ?_⟩
        refine lc_go (walk_list (K := K) (a := w) (xs := ws')) (fun D i y H' => ∃ r, ws[i]? = some r ∧ ∃ a, y = .ref a ∧ a ≠ D ∧ H' a = some (.lst (vS r))) (fun i => !(ws.getD i []).isEmpty) (by omega) hD1' (fun i H x H' y => by rw [y.1]; exact Le.refl _) (fun H' e => SqL.of (e.at hw)) ?_ ?_ ?_
        · rintro j y Hx Hd eX ⟨r, h1, a, h2, h3, h4⟩
          exact ⟨r, h1, a, h2, h3, eX.at h3 h4⟩
        · rintro i x Ha Hb hi g1 g2 ⟨rfl, hx⟩ _ QF QT h1 h2
          have hil : i < ws.length := by omega
          obtain ⟨b, hb, a, rfl, ha⟩ := Paired.at hpw (List.getElem?_eq_getElem hil)
          rw [hx] at hb
          cases hb
          have hgd : ws.getD i [] = ws[i] := by rw [List.getD_eq_getElem?_getD, List.getElem?_eq_getElem hil]; rfl
          have hmem := List.getElem_mem hil
          rw [hgd] at h1 h2
          refine ⟨rfl, _, rfl, (by decide : 0 ≤ sizeLine), fun q hq => ?_⟩
          have eq1 := Le.new (o := .lst []) hq
          have ha1 := eq1.at (g2.at ha)
          refine ⟨.list (dS ws[i]), .list [], .lst (SqL.of ha1) dpAll_S, .lst (SqL.of (xs := []) upd_same) .nil, shaped_S (hokw _ hmem), by kernel_rfl, _, rfl, ?_⟩
          rw [eqv_nil]
          cases he : (ws[i]).isEmpty with
          | true => exact iteF (h1 _ eq1 (by rw [he]; rfl))
          | false => exact iteT ⟨_, rfl, h2 _ _ eq1 (by rw [he]; rfl) ⟨_, List.getElem?_eq_getElem hil, a, rfl, fun z => (by rw [z] at ha; rw [hD1'] at ha; cases ha), ha1⟩⟩
        · intro y1 H2 g1 hD1 hg1
          have hp2 : Paired (fun r v => RdAt H2 v r) (ws.filter fun r => !r.isEmpty) y1 := by
            have q := hg1
            unfold Got at q
            rw [← hwl] at q
            exact got_filter (p := fun r : List Str => !r.isEmpty) (R := fun r v => RdAt H2 v r) [] (Paired.mapP q fun i y ⟨r, g1, a, g2, _, g4⟩ => ⟨r, g1, a, g2, g4⟩)
          refine ⟨(by decide : 0 ≤ sizeLine), fun e he => ?_⟩
          have E5 := Le.new (o := .lst []) he
          have hpw1 : Paired (fun r v => RdAt (upd H2 e (.lst [])) v r) (ws.filter fun r => !r.isEmpty) y1 := Paired.mapP hp2 fun _ _ q => q.mono E5
          refine ⟨.list ((ws.filter fun r => !r.isEmpty).map dR), .list [], .lst (SqL.of (E5.at hD1)) (dpAll_R hpw1), .lst (SqL.of (xs := []) upd_same) .nil, shaped_R (fun r hr => hokw r (List.mem_filter.mp hr).1), by kernel_rfl, _, rfl, ?_⟩
          have g2 := g1.trans E5
          generalize upd H2 e (.lst []) = Hw at g2
          have hw1 := g2.at hw
          have hfc1 := g2.at hfc
          have LW1 := LW.mono g2
          have e3 := e2.trans g2
          have hpw2 : Paired (fun r v => RdAt Hw v r) ws ws' := Paired.mapP hpw fun _ _ q => q.mono g2
          cases hwf : (ws.filter fun r => !r.isEmpty) with
          | nil =>
            rw [hwf] at M
            refine iteF ⟨_, rfl, ?_⟩
            refine k _ _ e3 ?_ (fun p z => by cases z; exact ffr)
            rw [M.fin]
            exact ⟨f, rfl, hfc1⟩
          | cons r0 rt =>
            have hwn : (ws.filter fun r => !r.isEmpty) ≠ [] := by rw [hwf]; exact fun z => by cases z
            refine iteT ⟨fun σ' H' => ∃ q', q' < q ∧ ∃ w fs ws v3 v4 v5 v6 v7, σ' = [some (.ref l), some (.ref w), some (.ref f), v3, v4, v5, v6, v7] ∧ Le H H' ∧ LLF H' f w ws ∧ H' f = some (.lst (vS fs)) ∧ MrgI ls fs (ws.filter fun r => !r.isEmpty) q' ∧ ws.length ≤ 10 ∧ ∀ r ∈ ws, r.length ≤ 100, fun σ' H' z => z, ?_⟩
            clear hwf
            -- heads
            refine ⟨_, rfl, w, rfl, ⟨ws', SqL.of hw1⟩, fun D2 hD2' => ?_⟩
            refine lc_go (walk_list (K := K) (a := w) (xs := ws')) (fun _ i y _ => y = V.str ((ws.getD i []).headD "")) (fun i => !(ws.getD i []).isEmpty) (by omega) hD2' (fun i H x H' y => by rw [y.1]; exact Le.refl _) (fun H' e => SqL.of (e.at hw1)) (fun _ _ _ _ _ h => h) ?_ ?_
            · rintro i x Ha Hb hi f1 f2 ⟨rfl, hx⟩ _ QF QT h1 h2
              have hil : i < ws.length := by omega
              obtain ⟨b, hb, a, rfl, ha⟩ := Paired.at hpw2 (List.getElem?_eq_getElem hil)
              rw [hx] at hb
              cases hb
              have hgd : ws.getD i [] = ws[i] := by rw [List.getD_eq_getElem?_getD, List.getElem?_eq_getElem hil]; rfl
              have hmem := List.getElem_mem hil
              have hokr := hokw _ hmem
              rw [hgd] at h1 h2
              generalize ws[i] = r at ha h1 h2 hokr
              refine ⟨rfl, _, rfl, (by decide : 0 ≤ sizeLine), fun q hq => ?_⟩
              have eq1 := Le.new (o := .lst []) hq
              have ha1 := eq1.at (f2.at ha)
              refine ⟨.list (dS r), .list [], .lst (SqL.of ha1) dpAll_S, .lst (SqL.of (xs := []) upd_same) .nil, shaped_S hokr, by kernel_rfl, _, rfl, ?_⟩
              rw [eqv_nil]
              cases r with
              | nil => exact iteF (h1 _ eq1 rfl)
              | cons c r => exact iteT ⟨_, rfl, a, _, 0, .str c, rfl, rfl, SqL.of ha1, atI_nat (j := 0) rfl, h2 _ _ eq1 rfl rfl⟩
            · intro y2 H3 f1 hD2 hg2
              have hv := Got.val (v := fun i => V.str ((ws.getD i []).headD "")) hg2
              rw [← hwl, filter_range ws [] (fun r => !r.isEmpty) (fun r => V.str (r.headD ""))] at hv
              have hv2 : y2 = vS (heads ws) := by
                rw [hv, heads_filt]
                unfold vS
                rw [List.map_map]
                rfl
              rw [hv2] at hD2
              have hhl : (heads ws).length ≤ 10 := by
                rw [heads_filt, List.length_map]
                have := List.length_filter_le (fun r : List Str => !r.isEmpty) ws
                omega
              have hw3 := f1.at hw1
              show gName 3 _ _ _ _
              -- good
              refine ⟨_, rfl, D2, rfl, ⟨_, SqL.of hD2⟩, fun D3 hD3' => ?_⟩
              refine lc_S (ws_list (K := K) (a := D2) (l := heads ws)) (canBe ws) V.str (by omega) hD3' (fun H' e => SqL.of (e.at hD2)) ?_ ?_
              · intro z hz Hb j1 _ QF QT h1 h2
                have hwb := j1.at hw3
                have hpb : Paired (fun r v => RdAt Hb v r) ws ws' := Paired.mapP hpw2 fun _ _ q => q.mono (f1.trans j1)
                refine ⟨rfl, _, rfl, w, rfl, ⟨ws', SqL.of hwb⟩, fun D4 hD4' => ?_⟩
                refine lc_go (walk_list (K := K) (a := w) (xs := ws')) (fun _ i y _ => y = V.bl (((ws.getD i []).drop 1).contains z)) (fun _ => true) (by omega) hD4' (fun i H x H' y => by rw [y.1]; exact Le.refl _) (fun H' e => SqL.of (e.at hwb)) (fun _ _ _ _ _ h => h) ?_ ?_
                · rintro i x Ha Hd hi k1 k2 ⟨rfl, hx⟩ _ QF2 QT2 h3 h4
                  have him : i < ws.length := by omega
                  obtain ⟨b, hb, a, rfl, ha⟩ := Paired.at hpb (List.getElem?_eq_getElem him)
                  rw [hx] at hb
                  cases hb
                  have hgd : ws.getD i [] = ws[i] := by rw [List.getD_eq_getElem?_getD, List.getElem?_eq_getElem him]; rfl
                  refine ⟨rfl, _, rfl, _, rfl, 1, rfl, a, _, rfl, SqL.of (k2.at ha), fun q hq => ?_⟩
                  refine ⟨q, _, rfl, .inl (SqL.of upd_same), rfl, by rw [cut1]; exact vS_flat _, ?_⟩
                  rw [cut1, inV_vS]
                  exact h4 _ _ (Le.new hq) rfl (by rw [hgd]; rfl)
                · intro ys4 H4 k1 hD4 hg4
                  have hv4 := Got.val (v := fun i => V.bl (((ws.getD i []).drop 1).contains z)) hg4
                  rw [filter_yes, ← hwl] at hv4
                  have hv5 : ys4 = (ws.map fun r => (r.drop 1).contains z).map V.bl := by
                    rw [hv4]
                    conv => rhs; rw [← range_getD ws []]
                    rw [List.map_map, List.map_map]
                    rfl
                  refine ⟨D4, ws.map fun r => (r.drop 1).contains z, rfl, SqL.of (by rw [hD4, hv5]), _, rfl, ?_⟩
                  have hac := any_canBe ws z
                  generalize (ws.map fun r => (r.drop 1).contains z).any id = bb at hac ⊢
                  cases bb with
                  | true => exact iteF (h1 H4 k1 hac.symm)
                  | false => exact iteT ⟨_, rfl, h2 H4 k1 hac.symm⟩
              · intro H4 j1 hD3
                show gName 4 _ _ _ _
                have hgl := List.length_filter_le (canBe ws) (heads ws)
                have hgok : ∀ x ∈ (heads ws).filter (canBe ws), PyData.strOk x = true := fun x hx => by
                  have h1 := (List.mem_filter.mp hx).1
                  unfold heads at h1
                  obtain ⟨r, h2, h3⟩ := List.mem_filterMap.mp h1
                  exact hokw r h2 x (List.mem_of_mem_head? h3)
                have hpk := pick_good ws
                refine ⟨_, rfl, (by decide : 0 ≤ sizeLine), fun e6 he6 => ?_⟩
                have E6 := Le.new (o := .lst []) he6
                have hD36 : (upd H4 e6 (.lst [])) D3 = some (.lst (vS ((heads ws).filter (canBe ws)))) := E6.at hD3
                refine ⟨.list (dS ((heads ws).filter (canBe ws))), .list [], .lst (SqL.of hD36) dpAll_S, .lst (SqL.of (xs := []) upd_same) .nil, shaped_S hgok, by kernel_rfl, _, rfl, ?_⟩
                rw [eqv_nil]
                have j2 := (f1.trans j1).trans E6
                generalize upd H4 e6 (.lst []) = H5 at hD36 j2
                cases hgd : (heads ws).filter (canBe ws) with
                | nil =>
                  rw [hgd] at hpk
                  refine iteT (k _ _ (e3.trans j2) ?_ (fun p z => by cases z))
                  rw [M.stuck hwn hpk]
                  rfl
                | cons y yr =>
                  rw [hgd] at hpk hD36
                  obtain ⟨q', hq', M'⟩ := M.step hwn hpk
                  rw [clean_ne] at M'
                  have hf2 := j2.at hfc1
                  have ef2 := e3.trans j2
                  refine iteF ⟨_, rfl, .inl ⟨rfl, _, SqL.of hf2⟩, _, rfl, D3, _, 0, .str y, rfl, rfl, SqL.of hD36, atI_nat (j := 0) rfl, f, _, _, rfl, rfl, hf2, sz5' (by rw [vS_len]; omega), ?_⟩
                  have hff : vS fs ++ [V.str y] = vS (fs ++ [y]) := by rw [vS_app]; rfl
                  rw [hff]
                  have n3f : D3 ≠ f := fun z => by rw [z, f1.at hfc1] at hD3'; cases hD3'
                  have e7 : Le H (upd H5 f (.lst (vS (fs ++ [y])))) := ef2.mutF ffr hf2 rfl
                  have LW2 := (LW1.mono j2).upd (o := .lst (vS (fs ++ [y])))
                  have hf3 : upd H5 f (.lst (vS (fs ++ [y]))) f = some (.lst (vS (fs ++ [y]))) := upd_same
                  have hD37 : upd H5 f (.lst (vS (fs ++ [y]))) D3 = some (.lst (vS (y :: yr))) := (upd_ne n3f).trans hD36
                  generalize upd H5 f (.lst (vS (fs ++ [y]))) = H6 at e7 LW2 hf3 hD37
                  obtain ⟨r3, w3, hw3, hp3⟩ := LW2
                  have hl3 := Paired.length hp3
                  refine ⟨_, rfl, w, rfl, ⟨r3, SqL.of hw3⟩, fun D5 hD5 => ?_⟩
                  refine lc_go (walk_list (K := K) (a := w) (xs := r3)) (fun D i v H' => ∃ r, ws[i]? = some r ∧ ∃ a, v = .ref a ∧ a ≠ D ∧ a ≠ f ∧ H' a = some (.lst (vS (r.filter fun x => !decide (x = y))))) (fun _ => true) (by omega) hD5 (fun i H x H' y => by rw [y.1]; exact Le.refl _) (fun H' e => SqL.of (e.at hw3)) ?_ ?_ ?_
                  · rintro j v Hx Hd eX ⟨r, h1, a, h2, h3, h4, h5⟩
                    exact ⟨r, h1, a, h2, h3, h4, eX.at h3 h5⟩
                  · rintro j x Hx Hd hj m1 m2 ⟨rfl, hx⟩ ⟨zs, hzs⟩ QF QT h1 h2
                    have hjl : j < ws.length := by omega
                    obtain ⟨b, hb, a, rfl, naf, ha3⟩ := Paired.at hp3 (List.getElem?_eq_getElem hjl)
                    rw [hx] at hb
                    cases hb
                    have hzj : (ws[j]).length ≤ 100 := hws _ (List.getElem_mem hjl)
                    refine ⟨rfl, _, rfl, a, rfl, ⟨_, SqL.of (m2.at ha3)⟩, fun D6 hD6 => ?_⟩
                    refine lc_S (ws_list (K := K) (a := a) (l := ws[j])) (fun z => !decide (z = y)) V.str (by omega) hD6 (fun H' e => SqL.of (e.at (m2.at ha3))) ?_ ?_
                    · intro z hz He n1 _ QF2 QT2 k1 k2
                      refine ⟨rfl, _, rfl, _, rfl, D3, _, 0, .str y, rfl, rfl, SqL.of (n1.at (m2.at hD37)), atI_nat (j := 0) rfl, rfl, _, rfl, ?_⟩
                      have ed : decide (V.str z = V.str y) = decide (z = y) := by rw [Bool.eq_iff_iff, decide_eq_true_eq, decide_eq_true_eq]; exact ⟨V.str.inj, fun q => by rw [q]⟩
                      rw [ed]
                      cases hq : (!decide (z = y)) with
                      | true => exact iteT ⟨_, rfl, k2 He (Le.refl _) hq⟩
                      | false => exact iteF (k1 He (Le.refl _) hq)
                    · intro He n1 hD6e
                      refine h2 _ He n1 rfl ⟨_, List.getElem?_eq_getElem hjl, D6, rfl, fun z => ?_, fun z => ?_, hD6e⟩
                      · rw [z, hzs] at hD6; cases hD6
                      · rw [z, m2.at hf3] at hD6; cases hD6
                  · intro y5 H7 m1 hD57 hg5
                    have hp7 : Paired (fun r v => ∃ a, v = .ref a ∧ a ≠ f ∧ H7 a = some (.lst (vS r))) (ws.map fun r => r.filter fun x => !decide (x = y)) y5 := by
                      have q := hg5
                      unfold Got at q
                      have q2 := got_all (l := ws) (R := fun r v => ∃ a, v = V.ref a ∧ a ≠ f ∧ H7 a = some (.lst (vS (r.filter fun x => !decide (x = y))))) (fun _ => rfl) hl3.symm (Paired.mapP q fun i y ⟨r, g1, a, g2, _, g3, g4⟩ => ⟨r, g1, a, g2, g3, g4⟩)
                      exact Paired.mapL q2 fun _ _ h => h
                    show gName 1 _ _ _ _
                    refine ⟨q', hq', D5, fs ++ [y], _, _, _, _, _, _, rfl, e7.trans m1, ⟨y5, fun z => ?_, hD57, hp7⟩, m1.at hf3, M', by rw [List.length_map]; exact hwz, fun r hr => ?_⟩
                    · rw [z, hf3] at hD5; cases hD5
                    · obtain ⟨r2, h1, rfl⟩ := List.mem_map.mp hr
                      exact Nat.le_trans (List.length_filter_le ..) (hws r2 h1)
  exact ⟨⟨_, fd, G, T.g_Lmerge, F.kp, F.bindsN (ps := ["_law_lists"]) fun _ _ _ _ _ _ us hl => match us, hl with | [_], _ => rfl⟩⟩

end
end Sw
set_option linter.all false
set_option maxRecDepth 100000
set_option maxHeartbeats 4000000
/-! SwF30: the law's copy. Terms printed by gen_term.py. -/
namespace Sw
open PySem PySem.Spec PyProof.Rows L2 LamX
section
variable {P : Program} {w : World} {K : PySem.W.Frag} {mg : Str → Option Value} {base : Heap}


def spLCopy : Sp := fun vs H Q _ => ∃ p U, vs = [.ref p] ∧ PlnAt H p U ∧ U.Ok ∧ ∀ p' H', Le H H' → PlnF H H' p' U → Q (.ref p') H'
theorem kvR_snoc {l : List Str} {f : Str → Addr} {z : Str} {a : Addr} (h : z ∉ l) : kvR (l ++ [z]) (fput f z a) = kvR l f ++ [(Sum.inr z, .ref a)] := by
  unfold kvR fput
  rw [List.map_append]
  congr 1
  · refine List.map_congr_left fun m hm => ?_
    rw [if_neg (fun e => h (by rw [← e]; exact hm))]
  · simp
theorem take_no {l : List Str} (nd : l.Nodup) {i : Nat} {z : Str} (hz : l[i]? = some z) : z ∉ l.take i := fun hm => by
  obtain ⟨j, hj, ej⟩ := List.mem_iff_getElem.mp hm
  rw [List.getElem_take] at ej
  have hj2 : j < i := by rw [List.length_take] at hj; omega
  have hjl : j < l.length := by rw [List.length_take] at hj; omega
  have := (List.getElem?_inj hjl nd).mp ((List.getElem?_eq_getElem hjl).trans ((congrArg some ej).trans hz.symm))
  omega
/-- copies are made, one for each name, and told in pairs -/
structure CpI (Hs : Hp) (D : Addr) (l : List Str) (ob : Str → HO) (H : Hp) (f : Str → Addr) (ps : List Addr) : Prop where
  le : Le Hs H
  hD : H D = some (.lst (ps.map V.ref))
  pr : Paired (fun p kv => H p = some (.tup [kV kv.1, kv.2])) ps (kvR l f)
  at_ : ∀ n ∈ l, H (f n) = some (ob n)
  fr : ∀ n ∈ l, Fre Hs (f n)
  nD : ∀ n ∈ l, f n ≠ D
  inj : ∀ n ∈ l, ∀ m ∈ l, f n = f m → n = m
theorem CpI.start {Hs : Hp} {D : Addr} {ob : Str → HO} (hD : Hs D = none) : CpI Hs D [] ob (upd Hs D (.lst [])) (fun _ => 0) [] :=
  ⟨Le.new hD, upd_same, .nil, fun n hn => (by cases hn), fun n hn => (by cases hn), fun n hn => (by cases hn), fun n hn => (by cases hn)⟩
theorem CpI.step {Hs H : Hp} {D q t : Addr} {l : List Str} {ob : Str → HO} {f : Str → Addr} {ps : List Addr} {z : Str} (hDs : Hs D = none) (C : CpI Hs D l ob H f ps) (hz : z ∉ l) (hp : plainO (ob z) = true) (hpl : ∀ n ∈ l, plainO (ob n) = true) (hq : H q = none) (ht : upd H q (ob z) t = none) :
    upd (upd H q (ob z)) t (.tup [.str z, .ref q]) D = some (.lst (ps.map V.ref)) ∧ CpI Hs D (l ++ [z]) ob (upd (upd (upd H q (ob z)) t (.tup [.str z, .ref q])) D (.lst (ps.map V.ref ++ [V.ref t]))) (fput f z q) (ps ++ [t]) := by
  have e1 := Le.new (o := ob z) hq
  have e2 := Le.new (o := .tup [.str z, .ref q]) ht
  have hD2 := e2.at (e1.at C.hD)
  have qD : q ≠ D := fun w => by rw [w, C.hD] at hq; cases hq
  have tq : t ≠ q := fun w => by rw [w, upd_same] at ht; cases ht
  have tD : t ≠ D := fun w => by rw [w, e1.at C.hD] at ht; cases ht
  refine ⟨hD2, ((C.le.trans e1).trans e2).mut hDs hD2 rfl, by rw [upd_same, List.map_append]; rfl, ?_, fun n hn => ?_, fun n hn => ?_, fun n hn => ?_, fun n hn m hm w => ?_⟩
  · rw [kvR_snoc hz]
    refine Paired.snoc (Paired.mapP C.pr fun p kv h => ?_) ?_
    · rw [upd_ne (fun w => by rw [w, C.hD] at h; cases h)]
      exact e2.at (e1.at h)
    · rw [upd_ne tD]
      exact upd_same
  · unfold fput
    by_cases w : n = z
    · rw [if_pos w, w, upd_ne qD, e2.at upd_same hp]
    · rw [if_neg w]
      have hl : n ∈ l := by rcases List.mem_append.mp hn with h | h; exact h; exact absurd (List.mem_singleton.mp h) w
      rw [upd_ne (C.nD n hl)]
      exact e2.at (e1.at (C.at_ n hl) (hpl n hl)) (hpl n hl)
  · unfold fput
    by_cases w : n = z
    · rw [if_pos w]; exact C.le.fr0 hq
    · rw [if_neg w]
      rcases List.mem_append.mp hn with h | h
      · exact C.fr n h
      · exact absurd (List.mem_singleton.mp h) w
  · unfold fput
    by_cases w : n = z
    · rw [if_pos w]; exact qD
    · rw [if_neg w]
      rcases List.mem_append.mp hn with h | h
      · exact C.nD n h
      · exact absurd (List.mem_singleton.mp h) w
  · have sp : ∀ n ∈ l ++ [z], n ∈ l ∨ n = z := fun n hn => (List.mem_append.mp hn).imp id List.mem_singleton.mp
    have nq : ∀ n ∈ l, f n ≠ q := fun n hn w => by have := C.at_ n hn; rw [w, hq] at this; cases this
    unfold fput at w
    rcases sp n hn with h1 | h1 <;> rcases sp m hm with h2 | h2
    · rw [if_neg (fun w => hz (by rw [← w]; exact h1)), if_neg (fun w => hz (by rw [← w]; exact h2))] at w
      exact C.inj n h1 m h2 w
    · rw [if_neg (fun w => hz (by rw [← w]; exact h1)), if_pos h2] at w
      exact absurd w (nq n h1)
    · rw [if_pos h1, if_neg (fun w => hz (by rw [← w]; exact h2))] at w
      exact absurd w.symm (nq m h2)
    · rw [h1, h2]
theorem CpI.len {Hs H : Hp} {D : Addr} {l : List Str} {ob : Str → HO} {f : Str → Addr} {ps : List Addr} (C : CpI Hs D l ob H f ps) : ps.length = l.length := by
  rw [Paired.length C.pr]; exact kvR_len ..
theorem CpI.mono {Hs H H' : Hp} {D : Addr} {l : List Str} {ob : Str → HO} {f : Str → Addr} {ps : List Addr} (C : CpI Hs D l ob H f ps) (e : Le H H') (hpl : ∀ n ∈ l, plainO (ob n) = true) : CpI Hs D l ob H' f ps :=
  ⟨C.le.trans e, e.at C.hD, Paired.mapP C.pr fun _ _ h => e.at h, fun n hn => e.at (C.at_ n hn) (hpl n hn), C.fr, C.nD, C.inj⟩
theorem merge_kvR {l : List Str} {f : Str → Addr} (nd : l.Nodup) : mergeK [] (kvR l f) = kvR l f := by
  refine merge_new _ [] ?_
  rw [List.nil_append]
  unfold kvR
  rw [List.map_map]
  exact List.pairwise_map.mpr (nd.imp fun h e => h (Sum.inr.inj e))
def PARTS : List Str := ["bases", "own", "rules", "order"]
def cpK (an : Addr) (xs : List Addr) : List (Key × V) := (Sum.inr "names", .ref an) :: List.zipWith (fun z x => (Sum.inr z, V.ref x)) PARTS xs
theorem cpK_len (an : Addr) (xs : List Addr) : (cpK an xs).length ≤ 5 := by
  unfold cpK
  rw [List.length_cons, List.length_zipWith]
  have : PARTS.length = 4 := rfl
  omega
theorem cpK_snoc (an : Addr) (xs : List Addr) (z : Str) (q : Addr) (h : PARTS[xs.length]? = some z) : putK (cpK an xs) (Sum.inr z) (.ref q) = cpK an (xs ++ [q]) := by
  match xs, h with
  | [], h => cases h; kernel_rfl
  | [_], h => cases h; kernel_rfl
  | [_, _], h => cases h; kernel_rfl
  | [_, _, _], h => cases h; kernel_rfl
  | _ :: _ :: _ :: _ :: r, h => cases h

theorem sc_Lcopy : FnScope ["_law_plain", "_law_found", "_law_part", "_law_name"] ["_law_plain"] (defScope s_Lcopy) := ⟨rfl, rfl, rfl, by decide +kernel, rfl, by decide +kernel, by decide +kernel⟩
theorem ok_Lcopy (T : Tx K mg)  : Cal P w K mg base "_law_copy" 1 ["_law_plain"] spLCopy := by
  obtain ⟨fd, F⟩ := T.fn _ fi_Lcopy
  have G : FnOk P w K mg base CX0 1 d_Lcopy.f fd ["_law_plain"] spLCopy := by
    refine F.ok sc_Lcopy (fun vs H Q E h => ?_) (fun cdv A outer s H vs Q E hr h => ⟨_, PSs.nox (X := cxOf CX0 P w K mg base _ _ _ _ cdv A outer s H E) ((pss_cons (ps_set (i := 1) sc_Lcopy.nd rfl (Or.inl rfl) (pe_disp (pps_cons pe_str (pe_callTy (wlistof K) (by rfl) T.f_list bb_list (pa_cons (pe_dget (hu_of hr) (pv 0) pe_str (fun _ _ => rfl)) pa_nil)) pps_nil) (by rfl) (by rfl) (fun z => by cases z) (by decide)))
    (pss_cons (ps_for PassesOwn.never rfl (wlist K (pe_lst (pa_cons pe_str (pa_cons pe_str (pa_cons pe_str (pa_cons pe_str pa_nil)))))) (pg_name (i := 2) sc_Lcopy.nd rfl (Or.inl rfl)) (pss_one (ps_dput (hu_of hr) (pv 1) (pv 2) (pe_callTy call_dictD (by rfl) T.f_dict bb_dict (pa_cons (pe_dget (hu_of hr) (pv 0) (pv 2) (fun _ _ => rfl)) pa_nil)) rfl)))
    (pss_cons (ps_dput (hu_of hr) (pv 1) pe_str (pe_callTy (call_dictP rfl) (by rfl) T.f_dict bb_dict (pa_cons (pe_lc (own := [("_law_name", 3)]) rfl sc_Lcopy.nd (wlist K (pe_dget (hu_of hr) (pv 0) pe_str (fun _ _ => rfl))) (blkOk_by (N := ["_law_plain", "_law_found", "_law_part", "_law_name"]) (sc := defScope s_Lcopy) (own := [("_law_name", 3)]) (by decide +kernel)) (fun _ _ _ _ _ => (pg_name (i := 3) sc_Lcopy.nd rfl (Or.inl rfl))) (fun _ _ _ _ _ => pts_nil) (fun _ _ _ _ _ => (pe_tup (pa_cons (pv 3) (pa_cons (pe_callTy call_dictD (by rfl) T.f_dict bb_dict (pa_cons (pe_dget (hu_of hr) (pe_dget (hu_of hr) (pv 0) pe_str (fun _ _ => rfl)) (pv 3) (fun _ _ => rfl)) pa_nil)) pa_nil))))) pa_nil)) rfl)
    (pss_cons (ps_dput (hu_of hr) (pv 1) pe_str (pe_callTy (call_dictP rfl) (by rfl) T.f_dict bb_dict (pa_cons (pe_lc (own := [("_law_name", 3)]) rfl sc_Lcopy.nd (wlist K (pe_dget (hu_of hr) (pv 0) pe_str (fun _ _ => rfl))) (blkOk_by (N := ["_law_plain", "_law_found", "_law_part", "_law_name"]) (sc := defScope s_Lcopy) (own := [("_law_name", 3)]) (by decide +kernel)) (fun _ _ _ _ _ => (pg_name (i := 3) sc_Lcopy.nd rfl (Or.inl rfl))) (fun _ _ _ _ _ => pts_nil) (fun _ _ _ _ _ => (pe_tup (pa_cons (pv 3) (pa_cons (pe_callTy (wlistof K) (by rfl) T.f_list bb_list (pa_cons (pe_dget (hu_of hr) (pe_dget (hu_of hr) (pv 0) pe_str (fun _ _ => rfl)) (pv 3) (fun _ _ => rfl)) pa_nil)) pa_nil))))) pa_nil)) rfl)
    (pss_one (ps_ret (pv 1)))))))), ?_⟩)
    · obtain ⟨_, _, rfl, _⟩ := h
      rfl
    · obtain ⟨p0, U, rfl, ⟨kvs, an0, ab, ao, as0, ar, ad, al0, fb, fs, fo, fl, rv, X⟩, ok, k⟩ := h
      have hz := ok.sz
      refine fun p hp => ⟨_, rfl, p0, _, rfl, dkey ((Le.new hp).at X.hp) X.k1, an0, _, rfl, .inl (SqL.of ((Le.new hp).at X.hn)), fun an han => ⟨(Le.new han).at upd_same, [(Sum.inr "names", .ref an)], rfl, (by decide : 1 ≤ 15), ?_⟩⟩
      have e1 := Le.new (o := .dK []) hp
      have e2 := Le.new (o := .lst (vS U.names)) han
      have hp2 : (upd (upd H p (.dK [])) an (.lst (vS U.names))) p = some (.dK []) := e2.at upd_same
      have fp : Fre H p := .of hp
      have fan : Fre H an := e1.fr0 han
      have n_an : an ≠ p := fun z => by rw [z, upd_same] at han; cases han
      have e3 : Le H (upd (upd (upd H p (.dK [])) an (.lst (vS U.names))) p (.dK (mergeK [] [(Sum.inr "names", .ref an)]))) := (e1.trans e2).mutF fp hp2 rfl
      have han3 : (upd (upd (upd H p (.dK [])) an (.lst (vS U.names))) p (.dK (mergeK [] [(Sum.inr "names", .ref an)]))) an = some (.lst (vS U.names)) := (upd_ne n_an).trans upd_same
      have hp3 : (upd (upd (upd H p (.dK [])) an (.lst (vS U.names))) p (.dK (mergeK [] [(Sum.inr "names", .ref an)]))) p = some (.dK (cpK an [])) := upd_same
      generalize (upd (upd (upd H p (.dK [])) an (.lst (vS U.names))) p (.dK (mergeK [] [(Sum.inr "names", .ref an)]))) = H3 at e3 han3 hp3
      show gName 1 _ _ _ _
      refine ⟨(by decide : 4 ≤ sizeLine), fun L hL => ⟨L, rfl, ⟨vS PARTS, SqL.of upd_same⟩, ?_⟩⟩
      have eL := Le.new (o := .lst (vS PARTS)) hL
      have hpd : ∀ (i : Nat) z, PARTS[i]? = some z → ∃ a kv, valV kvs (Sum.inr z) = some (.ref a) ∧ H a = some (.dK kv) ∧ ([kvR U.names fb, U.names.map fun n => ((Sum.inr n : Key), V.bl (U.cl n).own), U.names.map fun n => ((Sum.inr n : Key), rv n), kvR U.names fo] : List (List (Key × V)))[i]? = some kv := fun i z h => by
        match i, h with
        | 0, h => cases h; exact ⟨ab, _, X.k2, X.hb, rfl⟩
        | 1, h => cases h; exact ⟨ao, _, X.k3, X.ho, rfl⟩
        | 2, h => cases h; exact ⟨ar, _, X.k5, X.hr, rfl⟩
        | 3, h => cases h; exact ⟨ad, _, X.k6, X.hd, rfl⟩
        | _ + 4, h => cases h
      generalize hPD : ([kvR U.names fb, U.names.map fun n => ((Sum.inr n : Key), V.bl (U.cl n).own), U.names.map fun n => ((Sum.inr n : Key), rv n), kvR U.names fo] : List (List (Key × V))) = PD at hpd
      refine for_it (ws_list (K := K) (a := L) (l := PARTS)) (fun i σ H' => ∃ xs v2 v3, σ = [some (.ref p0), some (.ref p), v2, v3] ∧ Le H H' ∧ xs.length = i ∧ H' p = some (.dK (cpK an xs)) ∧ H' an = some (.lst (vS U.names)) ∧ (∀ (j : Nat) x kv, xs[j]? = some x → PD[j]? = some kv → H' x = some (.dK kv)) ∧ (∀ x ∈ xs, Fre H x ∧ x ≠ p ∧ x ≠ an) ∧ xs.Nodup ∧ H' L = some (.lst (vS PARTS)) ∧ (∀ x ∈ xs, ∃ kv, H' x = some (.dK kv))) ⟨[], none, none, rfl, e3.trans eL, rfl, eL.at hp3, eL.at han3, fun j x kv h => (by cases h), fun x h => (by cases h), List.nodup_nil, upd_same, fun x h => (by cases h)⟩ (fun i σ H' _ ⟨xs, v2, v3, q1, q2, q3, q4, q5, q6, q7, q8, q9, _⟩ => SqL.of q9) ?_ ?_
      · rintro i x σ Ha Hb hi ⟨xs, v2, v3, rfl, e, rfl, hpx, hanx, hxs, hfx, hnd, hLx, hxd⟩ ⟨rfl, z, hz2, rfl⟩
        obtain ⟨a, kv, hv, ha, hkv⟩ := hpd _ _ hz2
        refine ⟨_, rfl, _, rfl, p0, _, rfl, dkey (e.at X.hp) hv, a, kv, rfl, .inl (e.at ha), fun q hq => ?_⟩
        have eq := Le.new (o := .dK kv) hq
        have hpq := eq.at hpx
        refine ⟨_, rfl, _, rfl, p, _, rfl, .inl ⟨_, Sum.inr z, hpq, rfl, sz5' (by have := cpK_len an xs; omega), rfl⟩, ?_⟩
        rw [cpK_snoc _ _ _ _ hz2]
        have qp : q ≠ p := fun w => by rw [w, hpx] at hq; cases hq
        refine ⟨xs ++ [q], _, _, rfl, (e.trans eq).mutF fp hpq rfl, by rw [List.length_append]; rfl, upd_same, (upd_ne n_an).trans (eq.at hanx), fun j x kv' h1 h2 => ?_, fun x hx => ?_, ?_, ?_, fun x hx => ?_⟩
        · by_cases hj : j < xs.length
          · rw [List.getElem?_append_left hj] at h1
            rw [upd_ne (hfx x (List.mem_of_getElem? h1)).2.1]
            exact eq.at (hxs j x kv' h1 h2)
          · rw [List.getElem?_append_right (by omega)] at h1
            obtain rfl : j = xs.length := by
              have := (List.getElem?_eq_some_iff.mp h1).1
              simp at this
              omega
            rw [Nat.sub_self] at h1
            cases h1
            rw [hkv] at h2
            cases h2
            rw [upd_ne qp]
            exact upd_same
        · rcases List.mem_append.mp hx with h | h
          · exact hfx x h
          · rw [List.mem_singleton.mp h]
            exact ⟨e.fr0 hq, qp, fun w => by rw [w, hanx] at hq; cases hq⟩
        · rw [List.nodup_append]
          refine ⟨hnd, by simp, fun x hx y hy w => ?_⟩
          rw [List.mem_singleton] at hy
          obtain ⟨kv2, h2⟩ := hxd x hx
          rw [w, hy, hq] at h2
          cases h2
        · rw [upd_ne (fun w => by rw [w, hpx] at hLx; cases hLx)]
          exact eq.at hLx
        · rcases List.mem_append.mp hx with h | h
          · obtain ⟨kv2, h2⟩ := hxd x h
            exact ⟨kv2, (upd_ne (hfx x h).2.1).trans (eq.at h2)⟩
          · rw [List.mem_singleton.mp h]
            exact ⟨kv, (upd_ne qp).trans upd_same⟩
      rintro σ H4 ⟨xs, v2, v3, rfl, e4, hxl, hp4, han4, hxs, hfx, hnd, _, _⟩
      obtain ⟨a, b, c, d, rfl⟩ : ∃ a b c d, xs = [a, b, c, d] := by
        match xs, hxl with
        | [a, b, c, d], _ => exact ⟨a, b, c, d, rfl⟩
      have ga := hxs 0 a (kvR U.names fb) rfl (by rw [← hPD]; rfl)
      have gb := hxs 1 b (U.names.map fun n => ((Sum.inr n : Key), V.bl (U.cl n).own)) rfl (by rw [← hPD]; rfl)
      have gc := hxs 2 c (U.names.map fun n => ((Sum.inr n : Key), rv n)) rfl (by rw [← hPD]; rfl)
      have gd := hxs 3 d (kvR U.names fo) rfl (by rw [← hPD]; rfl)
      -- signs
      refine ⟨_, rfl, p0, _, rfl, dkey (e4.at X.hp) X.k1, an0, rfl, ⟨_, SqL.of (e4.at X.hn)⟩, fun D1 hD1 => ?_⟩
      refine it_out (ws_list (K := K) (a := an0) (l := U.names)) (fun i H' => ∃ f ps, CpI H4 D1 (U.names.take i) (fun n => .dK (kvM (U.cl n).marks)) H' f ps) ⟨_, _, CpI.start hD1⟩ (fun i H' _ ⟨f, ps, C⟩ => SqL.of ((e4.trans C.le).at X.hn)) ?_ ?_
      · rintro i y Ha Hb hi ⟨f, ps, C⟩ ⟨rfl, z, hz2, rfl⟩
        have hzn := List.mem_of_getElem? hz2
        have ea := e4.trans C.le
        refine ⟨rfl, _, rfl, _, rfl, p0, _, rfl, dkey (ea.at X.hp) X.k4, _, rfl, as0, _, rfl, dget_kv (.inl (ea.at X.hs)) hzn, fs z, _, rfl, .inl (ea.at (X.vs z hzn)), fun q hq => ⟨(by decide : 2 ≤ sizeLine), fun t ht => ?_⟩⟩
        obtain ⟨h1, C'⟩ := C.step (z := z) hD1 (take_no ok.nd hz2) rfl (fun _ _ => rfl) hq ht
        refine ⟨_, h1, sz5' (by rw [List.length_map, C.len, List.length_take]; omega), fput f z q, ps ++ [t], ?_⟩
        rw [take_snoc hz2]
        exact C'
      rintro H5 ⟨f1, ps1, C1⟩
      rw [List.take_length] at C1
      refine ⟨D1, ps1, _, rfl, SqL.of C1.hD, Paired.mapP C1.pr fun _ _ h => SqT.of h, fun as has => ?_⟩
      rw [merge_kvR ok.nd]
      have e6 := Le.new (o := .dK (kvR U.names f1)) has
      have hp6 := e6.at (C1.le.at hp4)
      have C1m := C1.mono e6 (fun _ _ => rfl)
      have hf6 : ∀ n ∈ U.names, f1 n ≠ as := fun n hn w => by have := C1.at_ n hn; rw [w, has] at this; cases this
      refine ⟨_, rfl, p, _, rfl, .inl ⟨_, Sum.inr "signs", hp6, rfl, sz5' (by have := cpK_len an [a, b, c, d]; omega), rfl⟩, ?_⟩
      have ep6 : putK (cpK an [a, b, c, d]) (Sum.inr "signs") (V.ref as) = [((Sum.inr "names" : Key), V.ref an), ((Sum.inr "bases" : Key), V.ref a), ((Sum.inr "own" : Key), V.ref b), ((Sum.inr "rules" : Key), V.ref c), ((Sum.inr "order" : Key), V.ref d), ((Sum.inr "signs" : Key), V.ref as)] := by kernel_rfl
      rw [ep6]
      have E7 : Le H (upd (upd H5 as (.dK (kvR U.names f1))) p (.dK [((Sum.inr "names" : Key), V.ref an), ((Sum.inr "bases" : Key), V.ref a), ((Sum.inr "own" : Key), V.ref b), ((Sum.inr "rules" : Key), V.ref c), ((Sum.inr "order" : Key), V.ref d), ((Sum.inr "signs" : Key), V.ref as)])) := ((e4.trans C1.le).trans e6).mutF fp hp6 rfl
      have ne4 : ∀ {x : Addr} {o : HO}, x ≠ p → plainO o = true → H4 x = some o → (upd (upd H5 as (.dK (kvR U.names f1))) p (.dK [((Sum.inr "names" : Key), V.ref an), ((Sum.inr "bases" : Key), V.ref a), ((Sum.inr "own" : Key), V.ref b), ((Sum.inr "rules" : Key), V.ref c), ((Sum.inr "order" : Key), V.ref d), ((Sum.inr "signs" : Key), V.ref as)])) x = some o := fun n pl h => (upd_ne n).trans (e6.at (C1.le.at h pl) pl)
      have npa := (hfx a (by simp)).2.1
      have npb := (hfx b (by simp)).2.1
      have npc := (hfx c (by simp)).2.1
      have npd := (hfx d (by simp)).2.1
      have nfp : ∀ n ∈ U.names, f1 n ≠ p := fun n hn => ((C1.fr n hn).ne hp4).symm
      have nasp : as ≠ p := fun w => by rw [w, C1.le.at hp4] at has; cases has
      have nasx : ∀ {x : Addr} {o : HO}, H4 x = some o → plainO o = true → x ≠ as := fun h pl w => by rw [← w, C1.le.at h pl] at has; cases has
      have g7a := ne4 npa rfl ga
      have g7b := ne4 npb rfl gb
      have g7c := ne4 npc rfl gc
      have g7d := ne4 npd rfl gd
      have g7n := ne4 n_an rfl han4
      have g7s : (upd (upd H5 as (.dK (kvR U.names f1))) p (.dK [((Sum.inr "names" : Key), V.ref an), ((Sum.inr "bases" : Key), V.ref a), ((Sum.inr "own" : Key), V.ref b), ((Sum.inr "rules" : Key), V.ref c), ((Sum.inr "order" : Key), V.ref d), ((Sum.inr "signs" : Key), V.ref as)])) as = some (.dK (kvR U.names f1)) := (upd_ne nasp).trans upd_same
      have g7f : ∀ n ∈ U.names, (upd (upd H5 as (.dK (kvR U.names f1))) p (.dK [((Sum.inr "names" : Key), V.ref an), ((Sum.inr "bases" : Key), V.ref a), ((Sum.inr "own" : Key), V.ref b), ((Sum.inr "rules" : Key), V.ref c), ((Sum.inr "order" : Key), V.ref d), ((Sum.inr "signs" : Key), V.ref as)])) (f1 n) = some (.dK (kvM (U.cl n).marks)) := fun n hn => (upd_ne (nfp n hn)).trans (C1m.at_ n hn)
      have g7p : (upd (upd H5 as (.dK (kvR U.names f1))) p (.dK [((Sum.inr "names" : Key), V.ref an), ((Sum.inr "bases" : Key), V.ref a), ((Sum.inr "own" : Key), V.ref b), ((Sum.inr "rules" : Key), V.ref c), ((Sum.inr "order" : Key), V.ref d), ((Sum.inr "signs" : Key), V.ref as)])) p = some (.dK [((Sum.inr "names" : Key), V.ref an), ((Sum.inr "bases" : Key), V.ref a), ((Sum.inr "own" : Key), V.ref b), ((Sum.inr "rules" : Key), V.ref c), ((Sum.inr "order" : Key), V.ref d), ((Sum.inr "signs" : Key), V.ref as)]) := upd_same
      have fas : Fre H as := ((e4.trans C1.le)).fr0 has
      generalize (upd (upd H5 as (.dK (kvR U.names f1))) p (.dK [((Sum.inr "names" : Key), V.ref an), ((Sum.inr "bases" : Key), V.ref a), ((Sum.inr "own" : Key), V.ref b), ((Sum.inr "rules" : Key), V.ref c), ((Sum.inr "order" : Key), V.ref d), ((Sum.inr "signs" : Key), V.ref as)])) = H7 at E7 g7a g7b g7c g7d g7n g7s g7f g7p
      -- lists
      refine ⟨_, rfl, p0, _, rfl, dkey (E7.at X.hp) X.k1, an0, rfl, ⟨_, SqL.of (E7.at X.hn)⟩, fun D2 hD2 => ?_⟩
      refine it_out (ws_list (K := K) (a := an0) (l := U.names)) (fun i H' => ∃ f ps, CpI H7 D2 (U.names.take i) (fun n => .lst (vS (U.ls n))) H' f ps) ⟨_, _, CpI.start hD2⟩ (fun i H' _ ⟨f, ps, C⟩ => SqL.of ((E7.trans C.le).at X.hn)) ?_ ?_
      · rintro i y Ha Hb hi ⟨f, ps, C⟩ ⟨rfl, z, hz2, rfl⟩
        have hzn := List.mem_of_getElem? hz2
        have ea := E7.trans C.le
        refine ⟨rfl, _, rfl, _, rfl, p0, _, rfl, dkey (ea.at X.hp) X.k7, _, rfl, al0, _, rfl, dget_kv (.inl (ea.at X.hl)) hzn, fl z, _, rfl, .inl (SqL.of (ea.at (X.vl z hzn))), fun q hq => ⟨(by decide : 2 ≤ sizeLine), fun t ht => ?_⟩⟩
        obtain ⟨h1, C'⟩ := C.step (z := z) hD2 (take_no ok.nd hz2) rfl (fun _ _ => rfl) hq ht
        refine ⟨_, h1, sz5' (by rw [List.length_map, C.len, List.length_take]; omega), fput f z q, ps ++ [t], ?_⟩
        rw [take_snoc hz2]
        exact C'
      rintro H8 ⟨f2, ps2, C2⟩
      rw [List.take_length] at C2
      refine ⟨D2, ps2, _, rfl, SqL.of C2.hD, Paired.mapP C2.pr fun _ _ h => SqT.of h, fun al hal => ?_⟩
      rw [merge_kvR ok.nd]
      have e9 := Le.new (o := .dK (kvR U.names f2)) hal
      have hp9 := e9.at (C2.le.at g7p)
      have C2m := C2.mono e9 (fun _ _ => rfl)
      refine ⟨_, rfl, p, _, rfl, .inl ⟨_, Sum.inr "lists", hp9, rfl, (by decide : 6 < sizeLine), rfl⟩, ?_⟩
      have ep9 : putK [((Sum.inr "names" : Key), V.ref an), ((Sum.inr "bases" : Key), V.ref a), ((Sum.inr "own" : Key), V.ref b), ((Sum.inr "rules" : Key), V.ref c), ((Sum.inr "order" : Key), V.ref d), ((Sum.inr "signs" : Key), V.ref as)] (Sum.inr "lists") (V.ref al) = [((Sum.inr "names" : Key), V.ref an), ((Sum.inr "bases" : Key), V.ref a), ((Sum.inr "own" : Key), V.ref b), ((Sum.inr "rules" : Key), V.ref c), ((Sum.inr "order" : Key), V.ref d), ((Sum.inr "signs" : Key), V.ref as), ((Sum.inr "lists" : Key), V.ref al)] := by kernel_rfl
      rw [ep9]
      have E10 := ((E7.trans C2.le).trans e9).mutF (o := .dK [((Sum.inr "names" : Key), V.ref an), ((Sum.inr "bases" : Key), V.ref a), ((Sum.inr "own" : Key), V.ref b), ((Sum.inr "rules" : Key), V.ref c), ((Sum.inr "order" : Key), V.ref d), ((Sum.inr "signs" : Key), V.ref as), ((Sum.inr "lists" : Key), V.ref al)]) fp hp9 rfl
      have nalp : al ≠ p := fun w => by rw [w, C2.le.at g7p] at hal; cases hal
      have nalx : ∀ {x : Addr} {o : HO}, H7 x = some o → plainO o = true → x ≠ al := fun h pl w => by rw [← w, C2.le.at h pl] at hal; cases hal
      have ne7 : ∀ {x : Addr} {o : HO}, x ≠ p → plainO o = true → H7 x = some o → (upd (upd H8 al (.dK (kvR U.names f2))) p (.dK [((Sum.inr "names" : Key), V.ref an), ((Sum.inr "bases" : Key), V.ref a), ((Sum.inr "own" : Key), V.ref b), ((Sum.inr "rules" : Key), V.ref c), ((Sum.inr "order" : Key), V.ref d), ((Sum.inr "signs" : Key), V.ref as), ((Sum.inr "lists" : Key), V.ref al)])) x = some o := fun n pl h => (upd_ne n).trans (e9.at (C2.le.at h pl) pl)
      refine ⟨_, rfl, k p _ E10 ⟨_, an, a, b, as, c, d, al, fb, f1, fo, f2, rv, ⟨upd_same, by kernel_rfl, by kernel_rfl, by kernel_rfl, by kernel_rfl, by kernel_rfl, by kernel_rfl, by kernel_rfl, ne7 n_an rfl g7n, ne7 npa rfl g7a, ne7 npb rfl g7b, ne7 nasp rfl g7s, ne7 npc rfl g7c, ne7 npd rfl g7d, (upd_ne nalp).trans upd_same, fun n hn => E10.at (X.vb n hn), fun n hn => ne7 (nfp n hn) rfl (g7f n hn), fun n hn => (X.vr n hn).monoB E10.b, fun n hn => E10.at (X.vo n hn), fun n hn => (upd_ne (((C2.fr n hn).ne g7p).symm)).trans (C2m.at_ n hn)⟩,
        ⟨fp.b, fan.b, (hfx a (by simp)).1.b, (hfx b (by simp)).1.b, fas.b, (hfx c (by simp)).1.b, (hfx d (by simp)).1.b, (((E7.trans C2.le)).fr0 hal).b, fun n hn => (E7.fre (C2.fr n hn)).b, ?_, fun n hn => ?_, C2.inj, fun n hn m hm => ((C2.fr n hn).ne (E7.at (X.vb m hm))).symm, fun n hn m hm => ((C2.fr n hn).ne (E7.at (X.vo m hm))).symm, fun n hn => ((C2.fr n hn).ne g7n).symm, fun n hn => fan.ne (X.vb n hn), fun n hn => fan.ne (X.vo n hn)⟩⟩⟩
      · simp only [List.nodup_cons, List.mem_cons, List.not_mem_nil, or_false, not_or, List.nodup_nil, and_true, not_false_eq_true] at hnd ⊢
        obtain ⟨⟨x1, x2, x3⟩, ⟨x4, x5⟩, x6⟩ := hnd
        exact ⟨⟨npa.symm, npb.symm, nasp.symm, npc.symm, npd.symm, nalp.symm⟩, ⟨x1, nasx ga rfl, x2, x3, nalx g7a rfl⟩, ⟨nasx gb rfl, x4, x5, nalx g7b rfl⟩, ⟨(nasx gc rfl).symm, (nasx gd rfl).symm, nalx g7s rfl⟩, ⟨x6, nalx g7c rfl⟩, nalx g7d rfl⟩
      · simp only [List.mem_cons, List.not_mem_nil, or_false, not_or]
        have q := C1.fr n hn
        exact ⟨nfp n hn, (q.ne ga).symm, (q.ne gb).symm, hf6 n hn, (q.ne gc).symm, (q.ne gd).symm, nalx (g7f n hn) rfl⟩
  exact ⟨⟨_, fd, G, T.g_Lcopy, F.kp, F.bindsN (ps := ["_law_plain"]) fun _ _ _ _ _ _ us hl => match us, hl with | [_], _ => rfl⟩⟩

end
end Sw
set_option linter.all false
set_option maxRecDepth 100000
set_option maxHeartbeats 4000000
/-! A few objects are written one behind another; a plain world gets a class more. -/
namespace Sw
open PySem PySem.Spec PyProof.Rows L2 LamX
theorem putN_new {l : List Str} {f : Str → V} {n : Str} {v : V} (h : n ∉ l) : putK (l.map fun m => ((Sum.inr m : Key), f m)) (Sum.inr n) v = (l ++ [n]).map fun m => ((Sum.inr m : Key), if m = n then v else f m) := by
  have e : ((l.map fun m => ((Sum.inr m : Key), f m)).any fun kv => decide (kv.1 = Sum.inr n)) = false := by
    rw [List.any_eq_false]
    intro x hx
    obtain ⟨m, hm, rfl⟩ := List.mem_map.mp hx
    intro z
    have z' : (Sum.inr m : Key) = Sum.inr n := of_decide_eq_true z
    exact h (by rw [← Sum.inr.inj z']; exact hm)
  unfold putK
  rw [e, if_neg Bool.false_ne_true, List.map_append]
  congr 1
  · refine List.map_congr_left fun m hm => ?_
    rw [if_neg fun z => h (by rw [← z]; exact hm)]
  · rw [List.map_singleton, if_pos rfl]
theorem putN_set {l : List Str} {f : Str → V} {n : Str} {v : V} (h : n ∈ l) : putK (l.map fun m => ((Sum.inr m : Key), f m)) (Sum.inr n) v = l.map fun m => ((Sum.inr m : Key), if m = n then v else f m) := by
  have e : ((l.map fun m => ((Sum.inr m : Key), f m)).any fun kv => decide (kv.1 = Sum.inr n)) = true := by
    rw [List.any_eq_true]
    exact ⟨_, List.mem_map.mpr ⟨n, h, rfl⟩, decide_eq_true rfl⟩
  unfold putK
  rw [e, if_pos rfl, List.map_map]
  refine List.map_congr_left fun m _ => ?_
  show (if (Sum.inr m : Key) = Sum.inr n then ((Sum.inr m : Key), v) else (Sum.inr m, f m)) = _
  by_cases z : m = n
  · rw [if_pos (congrArg Sum.inr z), if_pos z]
  · rw [if_neg (fun q => z (Sum.inr.inj q)), if_neg z]
/-! ### objects written -/
structure Stg (H0 H2 : Hp) (base : List Addr) (H : Hp) (as : List Addr) (os : List HO) : Prop where
  le : LeB H0 H
  nd : as.Nodup
  kp : ∀ x o, x ∉ base → H2 x = some o → plainO o = true → H x = some o
  at_ : Paired (fun a o => H a = some o) as os
  pl : ∀ o ∈ os, plainO o = true
  fr : ∀ a ∈ as, (a ∈ base ∨ Fre H2 a) ∧ FreB H0 a
  bs : ∀ a ∈ base, a ∈ as
section
variable {H0 H2 H H' : Hp} {base as : List Addr} {os : List HO} {o : HO} {q a : Addr} {i : Nat}
theorem Stg.get (S : Stg H0 H2 base H as os) (i : Nat) (ha : as[i]? = some a) (ho : os[i]? = some o) : H a = some o := by
  obtain ⟨o2, h1, h2⟩ := Paired.at S.at_ ha
  rw [ho] at h1
  cases h1
  exact h2
theorem Stg.pl_at (S : Stg H0 H2 base H as os) (ho : os[i]? = some o) : plainO o = true := S.pl o (List.mem_of_getElem? ho)
theorem Stg.has (S : Stg H0 H2 base H as os) {x : Addr} (hx : x ∈ as) : ∃ o, plainO o = true ∧ H x = some o := by
  obtain ⟨i, hi, e⟩ := List.mem_iff_getElem.mp hx
  obtain ⟨o2, h1, h2⟩ := Paired.at S.at_ (List.getElem?_eq_getElem hi)
  rw [e] at h2
  exact ⟨o2, S.pl_at h1, h2⟩
theorem paired_imp {α β : Type} {R R' : α → β → Prop} : ∀ {l : List α} {r : List β}, Paired R l r → (∀ a ∈ l, ∀ b ∈ r, R a b → R' a b) → Paired R' l r
  | _, _, .nil, _ => .nil
  | _, _, .cons h t, k => .cons (k _ List.mem_cons_self _ List.mem_cons_self h) (paired_imp t fun a ha b hb => k a (List.mem_cons_of_mem _ ha) b (List.mem_cons_of_mem _ hb))
theorem Stg.mono (S : Stg H0 H2 base H as os) (e : Le H H') : Stg H0 H2 base H' as os :=
  ⟨S.le.trans e.b, S.nd, fun x o h1 h2 h3 => e.at (S.kp x o h1 h2 h3) h3, paired_imp S.at_ fun a _ o ho h => e.at h (S.pl o ho), S.pl, S.fr, S.bs⟩
theorem Stg.fre (S : Stg H0 H2 base H as os) (hq : H q = none) : Fre H2 q := fun o pl h => by
  by_cases hb : q ∈ base
  · obtain ⟨o2, _, h2⟩ := S.has (S.bs q hb)
    rw [hq] at h2; cases h2
  · rw [S.kp q o hb h pl] at hq; cases hq
theorem Stg.new (S : Stg H0 H2 base H as os) (hq : H q = none) (po : plainO o = true) : Stg H0 H2 base (upd H q o) (as ++ [q]) (os ++ [o]) := by
  have e := Le.new (o := o) hq
  have hn : q ∉ as := fun h => by
    obtain ⟨o2, _, h2⟩ := S.has h
    rw [hq] at h2; cases h2
  have M := S.mono e
  refine ⟨M.le, ?_, M.kp, Paired.snoc M.at_ upd_same, fun x hx => ?_, fun a ha => ?_, fun a ha => List.mem_append_left _ (S.bs a ha)⟩
  · rw [List.nodup_append]
    exact ⟨S.nd, by simp, fun a ha b hb z => hn (by rw [← List.mem_singleton.mp hb, ← z]; exact ha)⟩
  · rcases List.mem_append.mp hx with h | h
    · exact S.pl x h
    · rw [List.mem_singleton.mp h]; exact po
  · rcases List.mem_append.mp ha with h | h
    · exact S.fr a h
    · rw [List.mem_singleton.mp h]
      exact ⟨.inr (S.fre hq), S.le.fre fun o _ z => by rw [hq] at z; cases z⟩
theorem paired_set {R R' : Addr → HO → Prop} : ∀ {l : List Addr} {r : List HO} {i : Nat} {a : Addr} {o : HO}, Paired R l r → l[i]? = some a → l.Nodup → (∀ b o, b ≠ a → R b o → R' b o) → R' a o → Paired R' l (r.set i o)
  | _, _, _, _, _, .nil, h, _, _, _ => by cases h
  | x :: l, y :: r, 0, a, o, .cons h t, hi, nd, k, ho => by
    cases hi
    refine .cons ho (paired_imp t fun b hb o2 _ q => k b o2 (fun z => (List.nodup_cons.mp nd).1 (by rw [← z]; exact hb)) q)
  | x :: l, y :: r, i + 1, a, o, .cons h t, hi, nd, k, ho => by
    have hi2 : l[i]? = some a := hi
    refine .cons (k x y (fun z => (List.nodup_cons.mp nd).1 (by rw [z]; exact List.mem_of_getElem? hi2)) h) (paired_set t hi2 (List.nodup_cons.mp nd).2 k ho)
theorem Stg.put (S : Stg H0 H2 base H as os) (i : Nat) (ha : as[i]? = some a) (po : plainO o = true) : Stg H0 H2 base (upd H a o) as (os.set i o) := by
  have hm := List.mem_of_getElem? ha
  obtain ⟨hb, hf⟩ := S.fr a hm
  obtain ⟨o2, p2, h2⟩ := S.has hm
  refine ⟨S.le.mutF hf h2 p2, S.nd, fun x u h1 h3 h4 => ?_, paired_set S.at_ ha S.nd (fun b u n h => (upd_ne n).trans h) upd_same, fun x hx => ?_, S.fr, S.bs⟩
  · rw [upd_ne (fun z => ?_)]
    · exact S.kp x u h1 h3 h4
    · rcases hb with h | h
      · exact h1 (by rw [z]; exact h)
      · exact h u h4 (by rw [← z]; exact h3)
  · rcases List.mem_or_eq_of_mem_set hx with h | h
    · exact S.pl x h
    · rw [h]; exact po
end
/-- a plain world of one's own, its parts named -/
structure PlnE (H0 H : Hp) (p : Addr) (U : Tb) (kvs : List (Key × V)) (an ab ao as ar ad al : Addr) : Prop where
  ex : ∃ fb fs fo fl rv, PlnX H p U kvs an ab ao as ar ad al fb fs fo fl rv ∧ PlnO H0 p U an ab ao as ar ad al fb fs fo fl
theorem PlnE.f {H0 H : Hp} {p : Addr} {U : Tb} {kvs : List (Key × V)} {an ab ao as ar ad al : Addr} (h : PlnE H0 H p U kvs an ab ao as ar ad al) : PlnF H0 H p U := by
  obtain ⟨fb, fs, fo, fl, rv, X, O⟩ := h.ex
  exact ⟨kvs, an, ab, ao, as, ar, ad, al, fb, fs, fo, fl, rv, X, O⟩
theorem PlnF.e {H0 H : Hp} {p : Addr} {U : Tb} (h : PlnF H0 H p U) : ∃ kvs an ab ao as ar ad al, PlnE H0 H p U kvs an ab ao as ar ad al := by
  obtain ⟨kvs, an, ab, ao, as, ar, ad, al, fb, fs, fo, fl, rv, X, O⟩ := h.ex
  exact ⟨kvs, an, ab, ao, as, ar, ad, al, fb, fs, fo, fl, rv, X, O⟩
theorem PlnE.monoB {H0 H H' : Hp} {p : Addr} {U : Tb} {kvs : List (Key × V)} {an ab ao as ar ad al : Addr} (h : PlnE H0 H p U kvs an ab ao as ar ad al) (e : LeB H H') : PlnE H0 H' p U kvs an ab ao as ar ad al := by
  obtain ⟨fb, fs, fo, fl, rv, X, O⟩ := h.ex
  exact ⟨fb, fs, fo, fl, rv, X.monoB e, O⟩
/-! ### a class more -/
theorem RuleAt.keep {H H' : Hp} {v : V} {ps : Bool} (e : KeepI H H') : ∀ {h : Option Hook}, RuleAt H v h ps → RuleAt H' v h ps
  | none, h => h
  | some hk, ⟨a, hv, h1, h2, h3⟩ => ⟨a, hv, h1, e _ _ h2 rfl, OHook.keep (c := some hk) e h3⟩
theorem pln_add {H0 H H' : Hp} {p : Addr} {U : Tb} {kvs : List (Key × V)} {an ab ao as ar ad al : Addr} {fb fs fo fl : Str → Addr} {rv : Str → V} {n : Str} {c : Cl} {b' s' o' l' : Addr} {v : V}
    (X : PlnX H p U kvs an ab ao as ar ad al fb fs fo fl rv) (O : PlnO H0 p U an ab ao as ar ad al fb fs fo fl) (E : LeB H0 H) (hn : n ∉ U.names)
    (kp : ∀ x o, x ∉ [an, ab, ao, as, ar, ad, al] → H x = some o → plainO o = true → H' x = some o)
    (h1 : H' an = some (.lst (vS (U.names ++ [n])))) (h2 : H' ab = some (.dK (kvR (U.names ++ [n]) (fput fb n b')))) (h3 : H' ao = some (.dK ((U.names ++ [n]).map fun m => (Sum.inr m, V.bl ((U.add n c).cl m).own))))
    (h4 : H' as = some (.dK (kvR (U.names ++ [n]) (fput fs n s')))) (h5 : H' ar = some (.dK ((U.names ++ [n]).map fun m => (Sum.inr m, if m = n then v else rv m)))) (h6 : H' ad = some (.dK (kvR (U.names ++ [n]) (fput fo n o')))) (h7 : H' al = some (.dK (kvR (U.names ++ [n]) (fput fl n l'))))
    (g1 : H' b' = some (.lst (vS c.par))) (g2 : H' s' = some (.dK (kvM c.marks))) (g3 : H' o' = some (.lst (vS c.line))) (g4 : H' l' = some (.lst [])) (g5 : RuleAt H' v c.hook c.passed)
    (f1 : Fre H b') (f2 : Fre H s') (f3 : Fre H o') (f4 : Fre H l') (d1 : l' ≠ b') (d2 : l' ≠ o') : PlnE H0 H' p (U.add n c) kvs an ab ao as ar ad al := by
  have sp : ∀ m ∈ (U.add n c).names, (m ∈ U.names ∧ m ≠ n) ∨ m = n := fun m hm => by
    rcases List.mem_append.mp hm with q | q
    · exact .inl ⟨q, fun e => hn (by rw [← e]; exact q)⟩
    · exact .inr (List.mem_singleton.mp q)
  have nl : ∀ {x : Addr} {xs : List V}, H x = some (.lst xs) → x ≠ an → x ∉ [an, ab, ao, as, ar, ad, al] := fun {x xs} h h1 => by
    simp only [List.mem_cons, List.not_mem_nil, or_false, not_or]
    exact ⟨h1, fun z => (by rw [z, X.hb] at h; cases h), fun z => (by rw [z, X.ho] at h; cases h), fun z => (by rw [z, X.hs] at h; cases h), fun z => (by rw [z, X.hr] at h; cases h), fun z => (by rw [z, X.hd] at h; cases h), fun z => (by rw [z, X.hl] at h; cases h)⟩
  have nd7 : ∀ {x : Addr} {ys : List (Key × V)}, H x = some (.dK ys) → x ∉ [ab, ao, as, ar, ad, al] → x ∉ [an, ab, ao, as, ar, ad, al] := fun {x ys} h h1 => by
    rw [List.mem_cons, not_or]
    exact ⟨fun z => (by rw [z, X.hn] at h; cases h), h1⟩
  have KI : KeepI H H' := fun x o h im => kp x o (fun hx => by
    simp only [List.mem_cons, List.not_mem_nil, or_false] at hx
    rcases hx with z | z | z | z | z | z | z <;> subst z
    · rw [X.hn] at h; cases h; cases im
    · rw [X.hb] at h; cases h; cases im
    · rw [X.ho] at h; cases h; cases im
    · rw [X.hs] at h; cases h; cases im
    · rw [X.hr] at h; cases h; cases im
    · rw [X.hd] at h; cases h; cases im
    · rw [X.hl] at h; cases h; cases im) h (imm_plain im)
  have sub6 : ∀ {x : Addr}, x ∉ [p, ab, ao, as, ar, ad, al] → x ∉ [ab, ao, as, ar, ad, al] := fun h z => h (List.mem_cons_of_mem _ z)
  have hp6 : p ∉ [ab, ao, as, ar, ad, al] := (List.nodup_cons.mp O.dst).1
  refine ⟨fput fb n b', fput fs n s', fput fo n o', fput fl n l', fun m => if m = n then v else rv m, ⟨kp _ _ (nd7 X.hp hp6) X.hp rfl, X.k1, X.k2, X.k3, X.k4, X.k5, X.k6, X.k7, h1, h2, h3, h4, h5, h6, h7, fun m hm => ?_, fun m hm => ?_, fun m hm => ?_, fun m hm => ?_, fun m hm => ?_⟩,
    ⟨O.fp, O.fan, O.fab, O.fao, O.fas, O.far, O.fad, O.fal, fun m hm => ?_, O.dst, fun m hm => ?_, fun m hm m2 hm2 => ?_, fun m hm m2 hm2 => ?_, fun m hm m2 hm2 => ?_, fun m hm => ?_, fun m hm => ?_, fun m hm => ?_⟩⟩
  · rcases sp m hm with ⟨q, ne⟩ | e
    · show H' (if m = n then b' else fb m) = some (.lst (vS ((U.add n c).cl m).par))
      rw [if_neg ne, Tb.add_cl ne]
      exact kp _ _ (nl (X.vb m q) (O.sba m q)) (X.vb m q) rfl
    · subst e
      show H' (if m = m then b' else fb m) = some (.lst (vS ((U.add m c).cl m).par))
      rw [if_pos rfl, Tb.add_new]
      exact g1
  · rcases sp m hm with ⟨q, ne⟩ | e
    · show H' (if m = n then s' else fs m) = some (.dK (kvM ((U.add n c).cl m).marks))
      rw [if_neg ne, Tb.add_cl ne]
      exact kp _ _ (nd7 (X.vs m q) (sub6 (O.sfs m q))) (X.vs m q) rfl
    · subst e
      show H' (if m = m then s' else fs m) = some (.dK (kvM ((U.add m c).cl m).marks))
      rw [if_pos rfl, Tb.add_new]
      exact g2
  · rcases sp m hm with ⟨q, ne⟩ | e
    · show RuleAt H' (if m = n then v else rv m) ((U.add n c).cl m).hook ((U.add n c).cl m).passed
      rw [if_neg ne, Tb.add_cl ne]
      exact (X.vr m q).keep KI
    · subst e
      show RuleAt H' (if m = m then v else rv m) ((U.add m c).cl m).hook ((U.add m c).cl m).passed
      rw [if_pos rfl, Tb.add_new]
      exact g5
  · rcases sp m hm with ⟨q, ne⟩ | e
    · show H' (if m = n then o' else fo m) = some (.lst (vS ((U.add n c).cl m).line))
      rw [if_neg ne, Tb.add_cl ne]
      exact kp _ _ (nl (X.vo m q) (O.soa m q)) (X.vo m q) rfl
    · subst e
      show H' (if m = m then o' else fo m) = some (.lst (vS ((U.add m c).cl m).line))
      rw [if_pos rfl, Tb.add_new]
      exact g3
  · rcases sp m hm with ⟨q, ne⟩ | e
    · show H' (if m = n then l' else fl m) = some (.lst (vS (if m = n then [] else U.ls m)))
      rw [if_neg ne, if_neg ne]
      exact kp _ _ (nl (X.vl m q) (O.sla m q)) (X.vl m q) rfl
    · subst e
      show H' (if m = m then l' else fl m) = some (.lst (vS (if m = m then [] else U.ls m)))
      rw [if_pos rfl, if_pos rfl]
      exact g4
  · show FreB H0 (if m = n then l' else fl m)
    rcases sp m hm with ⟨q, ne⟩ | e
    · rw [if_neg ne]; exact O.ffl m q
    · rw [if_pos e]; exact E.fre f4.b
  · show (if m = n then s' else fs m) ∉ _
    rcases sp m hm with ⟨q, ne⟩ | e
    · rw [if_neg ne]; exact O.sfs m q
    · rw [if_pos e]
      simp only [List.mem_cons, List.not_mem_nil, or_false, not_or]
      exact ⟨(f2.ne X.hp).symm, (f2.ne X.hb).symm, (f2.ne X.ho).symm, (f2.ne X.hs).symm, (f2.ne X.hr).symm, (f2.ne X.hd).symm, (f2.ne X.hl).symm⟩
  · show (if m = n then l' else fl m) = (if m2 = n then l' else fl m2) → m = m2
    rcases sp m hm with ⟨q, ne⟩ | e <;> rcases sp m2 hm2 with ⟨q2, ne2⟩ | e2
    · rw [if_neg ne, if_neg ne2]; exact O.sfl m q m2 q2
    · rw [if_neg ne, if_pos e2]; exact fun z => absurd z (f4.ne (X.vl m q))
    · rw [if_pos e, if_neg ne2]; exact fun z => absurd z.symm (f4.ne (X.vl m2 q2))
    · intro _; rw [e, e2]
  · show (if m = n then l' else fl m) ≠ (if m2 = n then b' else fb m2)
    rcases sp m hm with ⟨q, ne⟩ | e <;> rcases sp m2 hm2 with ⟨q2, ne2⟩ | e2
    · rw [if_neg ne, if_neg ne2]; exact O.slb m q m2 q2
    · rw [if_neg ne, if_pos e2]; exact f1.ne (X.vl m q)
    · rw [if_pos e, if_neg ne2]; exact (f4.ne (X.vb m2 q2)).symm
    · rw [if_pos e, if_pos e2]; exact d1
  · show (if m = n then l' else fl m) ≠ (if m2 = n then o' else fo m2)
    rcases sp m hm with ⟨q, ne⟩ | e <;> rcases sp m2 hm2 with ⟨q2, ne2⟩ | e2
    · rw [if_neg ne, if_neg ne2]; exact O.slo m q m2 q2
    · rw [if_neg ne, if_pos e2]; exact f3.ne (X.vl m q)
    · rw [if_pos e, if_neg ne2]; exact (f4.ne (X.vo m2 q2)).symm
    · rw [if_pos e, if_pos e2]; exact d2
  · show (if m = n then l' else fl m) ≠ an
    rcases sp m hm with ⟨q, ne⟩ | e
    · rw [if_neg ne]; exact O.sla m q
    · rw [if_pos e]; exact (f4.ne X.hn).symm
  · show (if m = n then b' else fb m) ≠ an
    rcases sp m hm with ⟨q, ne⟩ | e
    · rw [if_neg ne]; exact O.sba m q
    · rw [if_pos e]; exact (f1.ne X.hn).symm
  · show (if m = n then o' else fo m) ≠ an
    rcases sp m hm with ⟨q, ne⟩ | e
    · rw [if_neg ne]; exact O.soa m q
    · rw [if_pos e]; exact (f3.ne X.hn).symm
end Sw
set_option linter.all false
set_option maxRecDepth 100000
set_option maxHeartbeats 4000000
/-! SwF31: the law makes a class. Terms printed by gen_term.py. -/
namespace Sw
open PySem PySem.Spec PyProof.Rows L2 LamX
section
variable {P : Program} {w : World} {K : PySem.W.Frag} {mg : Str → Option Value} {base : Heap}


def spLMake : Sp := fun vs H Q _ => ∃ p n bl own sg rl H0 U kvs an ab ao as ar ad al fb fs fo fl rv bs ms h ps, vs = [.ref p, .str n, .ref bl, .bl own, .ref sg, rl] ∧ LeB H0 H ∧ PlnX H p U kvs an ab ao as ar ad al fb fs fo fl rv ∧ PlnO H0 p U an ab ao as ar ad al fb fs fo fl ∧ Bare U ∧ U.names.length < 20 ∧ n ∈ Tb.NAMES ∧ n ∉ U.names ∧
  H bl = some (.lst (vS bs)) ∧ bl ≠ an ∧ (∀ b ∈ bs, b ∈ U.names) ∧ bs.Nodup ∧ bs.length ≤ 3 ∧ H sg = some (.dK (kvM ms)) ∧ sg ∉ [ab, ao, as, ar, ad, al] ∧ (∀ p ∈ ms, p.1 ∈ Tb.METHS ∧ p.2 ∈ Tb.MRKS) ∧ (ms.map (·.1)).Nodup ∧ RuleAt H rl h ps ∧ (∀ hk, h = some hk → HkOk hk) ∧
  ∀ c H', NewCl U n c → LeB H0 H' → PlnE H0 H' p (U.add n c) kvs an ab ao as ar ad al → (∀ x o, x ∉ [an, ab, ao, as, ar, ad, al] → H x = some o → plainO o = true → H' x = some o) → Q .non H'
theorem new_sworn {U : Tb} (B : Bare U) {n : Str} {par r : List Str} {own : Bool} {c0 : Cl} (hn : n ∉ U.names) (hp : ∀ b ∈ par, b ∈ U.names) (hm : mrg (par.map (fun p => (U.cl p).line) ++ [par]) = some r) (h1 : c0.line = n :: r) (h2 : c0.own = own) (hr : ∀ m ∈ r, m ∈ U.names) (h : (U.add n c0).sworn n = true) : (own || par.any U.sworn) = true := by
  unfold Tb.sworn at h
  rw [Tb.add_new, h1, List.any_cons, Tb.add_new, h2] at h
  rcases Bool.or_eq_true_iff.mp h with q | q
  · rw [q]; rfl
  · obtain ⟨m, hmr, ho⟩ := List.any_eq_true.mp q
    have hmn := hr m hmr
    rw [Tb.add_cl fun e => hn (by rw [← e]; exact hmn)] at ho
    refine Bool.or_eq_true_iff.mpr (.inr (List.any_eq_true.mpr ?_))
    obtain ⟨l, hl, hml⟩ := (mrg_mem hm m).1 hmr
    rcases List.mem_append.mp hl with z | z
    · obtain ⟨p, hpp, rfl⟩ := List.mem_map.mp z
      exact ⟨p, hpp, List.any_eq_true.mpr ⟨m, hml, ho⟩⟩
    · rw [List.mem_singleton.mp z] at hml
      obtain ⟨r2, e2, _⟩ := B.line hmn
      exact ⟨m, hml, List.any_eq_true.mpr ⟨m, by rw [e2]; exact List.mem_cons_self, ho⟩⟩
theorem cut_one (b : Str) (r : List Str) : cutV (vS (b :: r)) none (some 1) = vS [b] := by
  unfold cutV
  rw [show HT.sIx (vS (b :: r)).length (vS (b :: r)).length (some 1) = min 1 (vS (b :: r)).length from HT.sIx_nat _ _ 1, HT.sIx_none]
  have : min 1 (vS (b :: r)).length = 1 := by rw [vS_len, List.length_cons]; omega
  rw [this]
  rfl

theorem sc_Lmake : FnScope ["_law_plain", "_law_name", "_law_bases", "_law_oath", "_law_signs", "_law_rule", "_law_lists", "_law_rest", "_law_base"] ["_law_plain", "_law_name", "_law_bases", "_law_oath", "_law_signs", "_law_rule"] (defScope s_Lmake) := ⟨rfl, rfl, rfl, by decide +kernel, rfl, by decide +kernel, by decide +kernel⟩
theorem ok_Lmake (T : Tx K mg) (c_Lmerge : Cal P w K mg base "_law_merge" 1 ["_law_lists"] spLMerge) (c_Lsworn : Cal P w K mg base "_law_sworn" 1 ["_law_plain", "_law_name"] spLSworn) : Cal P w K mg base "_law_make" 2 ["_law_plain", "_law_name", "_law_bases", "_law_oath", "_law_signs", "_law_rule"] spLMake := by
  obtain ⟨fd, F⟩ := T.fn _ fi_Lmake
  have G : FnOk P w K mg base CX0 2 d_Lmake.f fd ["_law_plain", "_law_name", "_law_bases", "_law_oath", "_law_signs", "_law_rule"] spLMake := by
    refine F.ok sc_Lmake (fun vs H Q E h => ?_) (fun cdv A outer s H vs Q E hr h => ⟨_, PSs.nox (X := cxOf CX0 P w K mg base _ _ _ _ cdv A outer s H E) ((pss_cons (ps_set (i := 6) sc_Lmake.nd rfl (Or.inl rfl) (pe_op op_cat (pe_lc (own := [("_law_base", 8)]) rfl sc_Lmake.nd (wlist K (pv 2)) (blkOk_by (N := ["_law_plain", "_law_name", "_law_bases", "_law_oath", "_law_signs", "_law_rule", "_law_lists", "_law_rest", "_law_base"]) (sc := defScope s_Lmake) (own := [("_law_base", 8)]) (by decide +kernel)) (fun _ _ _ _ _ => (pg_name (i := 8) sc_Lmake.nd rfl (Or.inl rfl))) (fun _ _ _ _ _ => pts_nil) (fun _ _ _ _ _ => (pe_dget (hu_of hr) (pe_dget (hu_of hr) (pv 0) pe_str (fun _ _ => rfl)) (pv 8) (fun _ _ => rfl)))) (pe_lst (pa_cons (pv 2) pa_nil))))
    (pss_cons (ps_set (i := 7) sc_Lmake.nd rfl (Or.inl rfl) (pc c_Lmerge hr rfl (pa_cons (pv 6) pa_nil)))
    (pss_cons (ps_if (pt_cmpR op_isN (pv 7) pe_non (nomark _)) (pss_one (ps_par (i := 2) (j := 7) rfl sc_Lmake.nd rfl rfl (by decide) rfl rfl (pa_cons (pe_slice (wsll K) (pv 2) po_none (po_some pe_int)) (pa_cons (pe_dget (hu_of hr) (pe_dget (hu_of hr) (pv 0) pe_str (fun _ _ => rfl)) (pe_ix (wixl K) (pv 2) pe_int (fun _ _ => rfl)) (fun _ _ => rfl)) pa_nil)) (by rfl))) pss_nil)
    (pss_cons (ps_expr (wapp K (pe_dget (hu_of hr) (pv 0) pe_str (fun _ _ => rfl)) (pv 1)))
    (pss_cons (ps_dput (hu_of hr) (pe_dget (hu_of hr) (pv 0) pe_str (fun _ _ => rfl)) (pv 1) (pe_callTy (wlistof K) (by rfl) T.f_list bb_list (pa_cons (pv 2) pa_nil)) rfl)
    (pss_cons (ps_dput (hu_of hr) (pe_dget (hu_of hr) (pv 0) pe_str (fun _ _ => rfl)) (pv 1) (pv 3) rfl)
    (pss_cons (ps_dput (hu_of hr) (pe_dget (hu_of hr) (pv 0) pe_str (fun _ _ => rfl)) (pv 1) (pe_callTy call_dictD (by rfl) T.f_dict bb_dict (pa_cons (pv 4) pa_nil)) rfl)
    (pss_cons (ps_dput (hu_of hr) (pe_dget (hu_of hr) (pv 0) pe_str (fun _ _ => rfl)) (pv 1) (pe_op op_cat (pe_lst (pa_cons (pv 1) pa_nil)) (pv 7)) rfl)
    (pss_cons (ps_dput (hu_of hr) (pe_dget (hu_of hr) (pv 0) pe_str (fun _ _ => rfl)) (pv 1) (pe_lst pa_nil) rfl)
    (pss_cons (ps_dput (hu_of hr) (pe_dget (hu_of hr) (pv 0) pe_str (fun _ _ => rfl)) (pv 1) pe_non rfl)
    (pss_one (ps_if (pt_val (pc c_Lsworn hr rfl (pa_cons (pv 0) (pa_cons (pv 1) pa_nil)))) (pss_one (ps_dput (hu_of hr) (pe_dget (hu_of hr) (pv 0) pe_str (fun _ _ => rfl)) (pv 1) (pv 5) rfl)) pss_nil))))))))))))), ?_⟩)
    · obtain ⟨_, _, _, _, _, _, _, _, _, _, _, _, _, _, _, _, _, _, _, _, _, _, _, _, _, rfl, _⟩ := h
      rfl
    · obtain ⟨p, n, bl, own, sg, rl, H0, U, kvs, an, ab, ao, as, ar, ad, al, fb, fs, fo, fl, rv, bs, ms, h, ps, rfl, e0, X, O, B, hz20, hnm, hn, hbl, nblan, hbs, hbnd, hbz, hsg, nsg6, hms, hmd, hrl, hhk, k⟩ := h
      have bsin := hbs
      refine ⟨_, rfl, bl, rfl, ⟨_, SqL.of hbl⟩, fun D hD => ?_⟩
      refine lc_SP (ws_list (K := K) (a := bl) (l := bs)) (fun _ => true) (fun D z y H' => RdAt H y (U.cl z).line) (by omega) hD (fun H' e => SqL.of (e.at hbl)) (fun _ _ _ _ _ h => h) ?_ ?_
      · intro z hz Hb e _ QF QT h1 h2
        exact ⟨rfl, _, rfl, p, _, rfl, dkey (e.at X.hp) X.k6, _, rfl, ad, _, rfl, dget_kv (.inl (e.at X.hd)) (hbs z hz), h2 _ Hb (Le.refl _) rfl ⟨fo z, rfl, X.vo z (hbs z hz)⟩⟩
      intro ys H8 e8 hD8 hp8
      rw [filter_yes] at hp8
      refine ⟨_, rfl, (by decide : 1 ≤ sizeLine), fun b2 hb2 => ?_⟩
      have f2 := Le.new (o := .lst [V.ref bl]) hb2
      have hl8 := Paired.length hp8
      refine ⟨D, b2, _, _, rfl, rfl, f2.at hD8, upd_same, sz5 (by rw [← hl8]; show _ + 1 ≤ _; omega), fun b3 hb3 => ?_⟩
      have f3 := Le.new (o := .lst (ys ++ [V.ref bl])) hb3
      have e3 := (e8.trans f2).trans f3
      have hLL : LLAt (upd (upd H8 b2 (.lst [V.ref bl])) b3 (.lst (ys ++ [V.ref bl]))) b3 (bs.map (fun p => (U.cl p).line) ++ [bs]) := by
        refine ⟨_, upd_same, Paired.append ?_ (.cons ⟨bl, rfl, e3.at hbl⟩ .nil)⟩
        exact Paired.mapL hp8 fun z y q => q.mono e3
      show gName 6 _ _ _ _
      refine ⟨_, rfl, b3, _, rfl, hLL, ?_, ?_, ?_, fun v H2 e9 hv9 fv9 => ?_⟩
      · rw [List.length_append, List.length_map]; show _ + 1 ≤ _; omega
      · rw [tot_app]
        have h1 := tot_map (fun p => (U.cl p).line) 20 bs fun p hp => B.ok.lsz p (hbs p hp)
        have h2 : tot [bs] = bs.length := by simp [tot]
        omega
      · intro r2 hr2 x hx
        rcases List.mem_append.mp hr2 with q | q
        · obtain ⟨p, hp, rfl⟩ := List.mem_map.mp q
          exact B.ok.nms x (B.ok.line p (hbs p hp) x hx)
        · rw [List.mem_singleton.mp q] at hx
          exact B.ok.nms x (hbs x hx)
      have e2' := e3.trans e9
      show gName 7 _ _ _ _
      cases hmg : mrg (bs.map (fun p => (U.cl p).line) ++ [bs]) with
      | some r =>
        rw [hmg] at hv9
        obtain ⟨rr, rfl, hrr2⟩ := hv9
        refine ⟨_, rfl, rfl, _, rfl, iteF ?_⟩
        have e2 := e2'
        obtain ⟨bl2, par, hbl2, nbl2, hpar, hpnd, hpz, hmrg, ebl, epar⟩ : ∃ bl2 par, H2 bl2 = some (.lst (vS par)) ∧ bl2 ≠ an ∧ (∀ b ∈ par, b ∈ U.names) ∧ par.Nodup ∧ par.length ≤ 3 ∧ mrg (par.map (fun p => (U.cl p).line) ++ [par]) = some r ∧ bl2 = bl ∧ par = bs := ⟨bl, bs, e2.at hbl, nblan, hbs, hbnd, hbz, hmg, rfl, rfl⟩
        subst ebl epar
        have nrr2 : rr ≠ an := ((fv9 rr rfl).ne (e3.at X.hn)).symm
        have hrin : ∀ m ∈ r, m ∈ U.names := fun m hm => by
          obtain ⟨l, hl, hml⟩ := (mrg_mem hmrg m).1 hm
          rcases List.mem_append.mp hl with q | q
          · obtain ⟨p, hp, rfl⟩ := List.mem_map.mp q
            exact B.ok.line p (hpar p hp) m hml
          · rw [List.mem_singleton.mp q] at hml
            exact hpar m hml
        have hrl2 : r.length ≤ 20 := Nat.le_trans (length_le_of_nodup_of_subset r Tb.NAMES (mrg_nd hmrg) fun x hx => B.ok.nms x (hrin x hx)) (by decide)
        have X2 := X.monoB e2.b
        have han2 := X2.hn
        have hp7 : p ∉ [an, ab, ao, as, ar, ad, al] := by
          rw [List.mem_cons, not_or]
          exact ⟨fun z => (by have := X2.hp; rw [z, X2.hn] at this; cases this), (List.nodup_cons.mp O.dst).1⟩
        have nd7 : [an, ab, ao, as, ar, ad, al].Nodup := by
          refine List.nodup_cons.mpr ⟨?_, (List.nodup_cons.mp O.dst).2⟩
          have q : ∀ {x : Addr} {kv : List (Key × V)}, H2 x = some (.dK kv) → an ≠ x := fun hx z => by rw [← z, X2.hn] at hx; cases hx
          simp only [List.mem_cons, List.not_mem_nil, or_false, not_or]
          exact ⟨q X2.hb, q X2.ho, q X2.hs, q X2.hr, q X2.hd, q X2.hl⟩
        have nlst : ∀ {x : Addr} {xs : List V}, H2 x = some (.lst xs) → x ≠ an → x ∉ [an, ab, ao, as, ar, ad, al] := fun {x xs} h h1 => by
          have q : ∀ {y : Addr} {kv : List (Key × V)}, H2 y = some (.dK kv) → x ≠ y := fun hy z => by rw [← z, h] at hy; cases hy
          simp only [List.mem_cons, List.not_mem_nil, or_false, not_or]
          exact ⟨h1, q X2.hb, q X2.ho, q X2.hs, q X2.hr, q X2.hd, q X2.hl⟩
        have hsg2 := e2.at hsg
        have nsg : sg ∉ [an, ab, ao, as, ar, ad, al] := by
          rw [List.mem_cons, not_or]
          exact ⟨fun z => (by rw [z, X2.hn] at hsg2; cases hsg2), nsg6⟩
        have nbl := nlst hbl2 nbl2
        have nrr := nlst hrr2 nrr2
        have S0 : Stg H0 H2 [an, ab, ao, as, ar, ad, al] H2 [an, ab, ao, as, ar, ad, al] [_, _, _, _, _, _, _] := ⟨e0.trans e2.b, nd7, fun _ _ _ h _ => h, .cons X2.hn (.cons X2.hb (.cons X2.ho (.cons X2.hs (.cons X2.hr (.cons X2.hd (.cons X2.hl .nil)))))), fun o ho => by
          simp only [List.mem_cons, List.not_mem_nil, or_false] at ho
          rcases ho with z | z | z | z | z | z | z <;> subst z <;> rfl, fun a ha => by
          refine ⟨.inl ha, ?_⟩
          simp only [List.mem_cons, List.not_mem_nil, or_false] at ha
          rcases ha with z | z | z | z | z | z | z <;> subst z
          · exact O.fan
          · exact O.fab
          · exact O.fao
          · exact O.fas
          · exact O.far
          · exact O.fad
          · exact O.fal, fun a ha => ha⟩
        have hnl := B.ok.sz
        have hkz : ∀ f : Str → Addr, (kvR U.names f).length < sizeLine := fun f => sz5' (by rw [kvR_len]; omega)
        refine ⟨_, rfl, p, _, rfl, dkey X2.hp X2.k1, .inl ⟨rfl, _, SqL.of X2.hn⟩, _, rfl, an, _, _, rfl, rfl, X2.hn, sz5' (by rw [vS_len]; omega), ?_⟩
        rw [show vS U.names ++ [V.str n] = vS (U.names ++ [n]) from (by rw [vS_app]; rfl)]
        have S1 := S0.put 0 (a := an) (o := .lst (vS (U.names ++ [n]))) rfl rfl
        generalize upd H2 an (.lst (vS (U.names ++ [n]))) = H3 at S1
        refine ⟨_, rfl, bl2, _, rfl, .inl (SqL.of (S1.kp bl2 _ nbl hbl2 rfl)), fun b' hb' => ⟨_, rfl, p, _, rfl, dkey ((Le.new hb').at (S1.kp p _ hp7 X2.hp rfl)) X2.k2, _, rfl, ?_⟩⟩
        have S2 := S1.new (o := .lst (vS par)) hb' rfl
        refine ⟨ab, _, rfl, .inl ⟨_, Sum.inr n, S2.get 1 rfl rfl, rfl, hkz _, rfl⟩, ?_⟩
        rw [kvR_put hn]
        have S3 := S2.put 1 (a := ab) (o := .dK (kvR (U.names ++ [n]) fun m => if m = n then b' else fb m)) rfl rfl
        generalize upd (upd H3 b' (.lst (vS par))) ab (.dK (kvR (U.names ++ [n]) fun m => if m = n then b' else fb m)) = H4 at S3
        refine ⟨_, rfl, _, rfl, p, _, rfl, dkey (S3.kp p _ hp7 X2.hp rfl) X2.k3, _, rfl, ao, _, rfl, .inl ⟨_, Sum.inr n, S3.get 2 rfl rfl, rfl, sz5' (by rw [List.length_map]; omega), rfl⟩, ?_⟩
        rw [putN_new hn]
        have S4 := S3.put 2 (a := ao) (o := .dK ((U.names ++ [n]).map fun m => ((Sum.inr m : Key), if m = n then V.bl own else V.bl (U.cl m).own))) rfl rfl
        generalize upd H4 ao (.dK ((U.names ++ [n]).map fun m => ((Sum.inr m : Key), if m = n then V.bl own else V.bl (U.cl m).own))) = H5 at S4
        refine ⟨_, rfl, sg, _, rfl, .inl (S4.kp sg _ nsg hsg2 rfl), fun s' hs' => ⟨_, rfl, p, _, rfl, dkey ((Le.new hs').at (S4.kp p _ hp7 X2.hp rfl)) X2.k4, _, rfl, ?_⟩⟩
        have S5 := S4.new (o := .dK (kvM ms)) hs' rfl
        refine ⟨as, _, rfl, .inl ⟨_, Sum.inr n, S5.get 3 rfl rfl, rfl, hkz _, rfl⟩, ?_⟩
        rw [kvR_put hn]
        have S6 := S5.put 3 (a := as) (o := .dK (kvR (U.names ++ [n]) fun m => if m = n then s' else fs m)) rfl rfl
        generalize upd (upd H5 s' (.dK (kvM ms))) as (.dK (kvR (U.names ++ [n]) fun m => if m = n then s' else fs m)) = H6 at S6
        refine ⟨_, rfl, (by decide : 1 ≤ sizeLine), fun q hq => ?_⟩
        have eq := Le.new (o := .lst [V.str n]) hq
        have S6q := S6.mono eq
        have hqq : (upd H6 q (.lst [V.str n])) q = some (.lst [V.str n]) := upd_same
        generalize upd H6 q (.lst [V.str n]) = H7 at S6q hqq
        have hrr7 := S6q.kp rr _ nrr hrr2 rfl
        refine ⟨_, rfl, q, rr, _, _, rfl, rfl, hqq, hrr7, sz5 (by rw [vS_len]; show 1 + _ ≤ _; omega), fun o' ho' => ⟨_, rfl, p, _, rfl, dkey ((Le.new ho').at (S6q.kp p _ hp7 X2.hp rfl)) X2.k6, _, rfl, ?_⟩⟩
        rw [show ([V.str n] ++ vS r) = vS (n :: r) from rfl]
        have S7 := S6q.new (o := .lst (vS (n :: r))) ho' rfl
        refine ⟨ad, _, rfl, .inl ⟨_, Sum.inr n, S7.get 5 rfl rfl, rfl, hkz _, rfl⟩, ?_⟩
        rw [kvR_put hn]
        have S8 := S7.put 5 (a := ad) (o := .dK (kvR (U.names ++ [n]) fun m => if m = n then o' else fo m)) rfl rfl
        generalize upd (upd H7 o' (.lst (vS (n :: r)))) ad (.dK (kvR (U.names ++ [n]) fun m => if m = n then o' else fo m)) = H8 at S8
        refine ⟨(by decide : 0 ≤ sizeLine), fun l' hl' => ⟨_, rfl, p, _, rfl, dkey ((Le.new hl').at (S8.kp p _ hp7 X2.hp rfl)) X2.k7, _, rfl, ?_⟩⟩
        have S9 := S8.new (o := .lst []) hl' rfl
        refine ⟨al, _, rfl, .inl ⟨_, Sum.inr n, S9.get 6 rfl rfl, rfl, hkz _, rfl⟩, ?_⟩
        rw [kvR_put hn]
        have S10 := S9.put 6 (a := al) (o := .dK (kvR (U.names ++ [n]) fun m => if m = n then l' else fl m)) rfl rfl
        generalize upd (upd H8 l' (.lst [])) al (.dK (kvR (U.names ++ [n]) fun m => if m = n then l' else fl m)) = H9 at S10
        refine ⟨_, rfl, p, _, rfl, dkey (S10.kp p _ hp7 X2.hp rfl) X2.k5, _, rfl, ar, _, rfl, .inl ⟨_, Sum.inr n, S10.get 4 rfl rfl, rfl, sz5' (by rw [List.length_map]; omega), rfl⟩, ?_⟩
        rw [putN_new hn]
        have S11 := S10.put 4 (a := ar) (o := .dK ((U.names ++ [n]).map fun m => ((Sum.inr m : Key), if m = n then V.non else rv m))) rfl rfl
        generalize upd H9 ar (.dK ((U.names ++ [n]).map fun m => ((Sum.inr m : Key), if m = n then V.non else rv m))) = H10 at S11
        have fresh : ∀ {x : Addr} {i : Nat}, 7 ≤ i → ([an, ab, ao, as, ar, ad, al] ++ [b'] ++ [s'] ++ [o'] ++ [l'])[i]? = some x → Fre H2 x := fun {x i} hi hx => by
          rcases (S11.fr x (List.mem_of_getElem? hx)).1 with z | z
          · obtain ⟨j, hj, e⟩ := List.mem_iff_getElem.mp z
            have hj' : ([an, ab, ao, as, ar, ad, al] ++ [b'] ++ [s'] ++ [o'] ++ [l'])[j]? = some x := by
              rw [List.append_assoc, List.append_assoc, List.append_assoc, List.getElem?_append_left hj, List.getElem?_eq_getElem hj, e]
            have hjl : j < ([an, ab, ao, as, ar, ad, al] ++ [b'] ++ [s'] ++ [o'] ++ [l']).length := (List.getElem?_eq_some_iff.mp hj').1
            have w := (List.getElem?_inj hjl S11.nd).mp (hj'.trans hx.symm)
            have hj7 : j < 7 := hj
            omega
          · exact z
        have ndl : l' ≠ b' ∧ l' ≠ o' := by
          have q := S11.nd
          refine ⟨fun z => ?_, fun z => ?_⟩
          · have w := (List.getElem?_inj (show 10 < ([an, ab, ao, as, ar, ad, al] ++ [b'] ++ [s'] ++ [o'] ++ [l']).length from (by decide : (10 : Nat) < 11)) q).mp (show ([an, ab, ao, as, ar, ad, al] ++ [b'] ++ [s'] ++ [o'] ++ [l'])[10]? = ([an, ab, ao, as, ar, ad, al] ++ [b'] ++ [s'] ++ [o'] ++ [l'])[7]? from congrArg some z)
            cases w
          · have w := (List.getElem?_inj (show 10 < ([an, ab, ao, as, ar, ad, al] ++ [b'] ++ [s'] ++ [o'] ++ [l']).length from (by decide : (10 : Nat) < 11)) q).mp (show ([an, ab, ao, as, ar, ad, al] ++ [b'] ++ [s'] ++ [o'] ++ [l'])[10]? = ([an, ab, ao, as, ar, ad, al] ++ [b'] ++ [s'] ++ [o'] ++ [l'])[9]? from congrArg some z)
            cases w
        have fin : ∀ (c : Cl) (v : V) (H' : Hp) (os : List HO), c.par = par → c.own = own → c.marks = ms → c.line = n :: r → RuleAt H' v c.hook c.passed → Stg H0 H2 [an, ab, ao, as, ar, ad, al] H' ([an, ab, ao, as, ar, ad, al] ++ [b'] ++ [s'] ++ [o'] ++ [l']) os →
            os = [.lst (vS (U.names ++ [n])), .dK (kvR (U.names ++ [n]) fun m => if m = n then b' else fb m), .dK ((U.names ++ [n]).map fun m => ((Sum.inr m : Key), if m = n then V.bl own else V.bl (U.cl m).own)), .dK (kvR (U.names ++ [n]) fun m => if m = n then s' else fs m), .dK ((U.names ++ [n]).map fun m => ((Sum.inr m : Key), if m = n then v else rv m)), .dK (kvR (U.names ++ [n]) fun m => if m = n then o' else fo m), .dK (kvR (U.names ++ [n]) fun m => if m = n then l' else fl m), .lst (vS par), .dK (kvM ms), .lst (vS (n :: r)), .lst []] → PlnE H0 H' p (U.add n c) kvs an ab ao as ar ad al := fun c v H' os q1 q2 q3 q4 q5 S eo => by
          subst eo
          refine pln_add (b' := b') (s' := s') (o' := o') (l' := l') (v := v) X2 O (e0.trans e2.b) hn S.kp (S.get 0 rfl rfl) (S.get 1 rfl rfl) ?_ (S.get 3 rfl rfl) (S.get 4 rfl rfl) (S.get 5 rfl rfl) (S.get 6 rfl rfl) ?_ ?_ ?_ (S.get 10 rfl rfl) q5 (fresh (i := 7) (by decide) rfl) (fresh (i := 8) (by decide) rfl) (fresh (i := 9) (by decide) rfl) (fresh (i := 10) (by decide) rfl) ndl.1 ndl.2
          · rw [S.get 2 rfl rfl]
            congr 2
            refine List.map_congr_left fun m _ => ?_
            show ((Sum.inr m : Key), if m = n then V.bl own else V.bl (U.cl m).own) = (Sum.inr m, V.bl (if m = n then c else U.cl m).own)
            by_cases z : m = n
            · rw [if_pos z, if_pos z, q2]
            · rw [if_neg z, if_neg z]
          · rw [q1]; exact S.get 7 rfl rfl
          · rw [q3]; exact S.get 8 rfl rfl
          · rw [q4]; exact S.get 9 rfl rfl
        have N0 : NewCl U n ⟨par, own, ms, none, false, n :: r⟩ := ⟨hnm, hn, hpar, hpnd, hpz, hms, hmd, fun h z => (by cases z), ⟨r, rfl, hmrg⟩⟩
        have P0 := fin ⟨par, own, ms, none, false, n :: r⟩ .non H10 _ rfl rfl rfl rfl ⟨rfl, rfl⟩ S11 rfl
        refine ⟨_, rfl, _, rfl, p, U.add n ⟨par, own, ms, none, false, n :: r⟩, n, rfl, P0.f.at_, B.ok.add N0 hz20, List.mem_append_right _ List.mem_cons_self, fun H11 e11 => ⟨_, rfl, ?_⟩⟩
        cases hsw : (U.add n ⟨par, own, ms, none, false, n :: r⟩).sworn n with
        | false => exact iteF (k _ _ N0 (S11.le.trans e11.b) (P0.monoB e11.b) fun x o h1 h2 h3 => e11.at (S11.kp x o h1 (e2.at h2 h3) h3) h3)
        | true =>
          have S12 := S11.mono e11
          refine iteT ⟨_, rfl, _, rfl, p, _, rfl, dkey (S12.kp p _ hp7 X2.hp rfl) X2.k5, _, rfl, ar, _, rfl, .inl ⟨_, Sum.inr n, S12.get 4 rfl rfl, rfl, sz5' (by rw [List.length_map, List.length_append]; show _ + 1 < _; omega), rfl⟩, ?_⟩
          rw [putN_set (List.mem_append_right _ List.mem_cons_self), show ((U.names ++ [n]).map fun m => ((Sum.inr m : Key), if m = n then rl else if m = n then V.non else rv m)) = (U.names ++ [n]).map fun m => ((Sum.inr m : Key), if m = n then rl else rv m) from List.map_congr_left fun m _ => by by_cases z : m = n; rw [if_pos z, if_pos z]; rw [if_neg z, if_neg z, if_neg z]]
          have S13 := S12.put 4 (a := ar) (o := .dK ((U.names ++ [n]).map fun m => ((Sum.inr m : Key), if m = n then rl else rv m))) rfl rfl
          generalize upd H11 ar (.dK ((U.names ++ [n]).map fun m => ((Sum.inr m : Key), if m = n then rl else rv m))) = H12 at S13
          have KI : KeepI H2 H12 := fun x u hx im => S13.kp x u (fun hm => by
            have hd : ∀ {y : Addr} {u2 : HO}, H2 y = some u2 → immO u2 = false → x ≠ y := fun hy i z => by rw [← z, hx] at hy; cases hy; rw [im] at i; cases i
            simp only [List.mem_cons, List.not_mem_nil, or_false] at hm
            rcases hm with z | z | z | z | z | z | z
            · exact hd X2.hn rfl z
            · exact hd X2.hb rfl z
            · exact hd X2.ho rfl z
            · exact hd X2.hs rfl z
            · exact hd X2.hr rfl z
            · exact hd X2.hd rfl z
            · exact hd X2.hl rfl z) hx (imm_plain im)
          refine k ⟨par, own, ms, h, ps, n :: r⟩ _ ⟨hnm, hn, hpar, hpnd, hpz, hms, hmd, fun hk z => ⟨hhk hk z, new_sworn (c0 := ⟨par, own, ms, none, false, n :: r⟩) B hn hpar hmrg rfl rfl hrin hsw⟩, ⟨r, rfl, hmrg⟩⟩ S13.le ?_ (fun x o h1 h2 h3 => S13.kp x o h1 (e2.at h2 h3) h3)
          exact fin ⟨par, own, ms, h, ps, n :: r⟩ rl H12 _ rfl rfl rfl rfl ((hrl.monoB e2.b).keep KI) S13 rfl
      | none =>
        rw [hmg] at hv9
        obtain rfl : v = .non := hv9
        refine ⟨_, rfl, rfl, _, rfl, iteT ?_⟩
        cases bs with
        | nil => cases hmg
        | cons b0 bt =>
          have hb0 := hbs b0 List.mem_cons_self
          obtain ⟨r0, hl0, hnd0⟩ := B.line hb0
          refine ⟨_, rfl, 1, rfl, bl, _, rfl, SqL.of (e2'.at hbl), fun bl2 hbl2' => ?_⟩
          rw [cut_one]
          have e2 := e2'.trans (Le.new (o := .lst (vS [b0])) hbl2')
          have hbl2 : (upd H2 bl2 (.lst (vS [b0]))) bl2 = some (.lst (vS [b0])) := upd_same
          have nbl2 : bl2 ≠ an := fun z => by rw [z, e2'.at X.hn] at hbl2'; cases hbl2'
          generalize upd H2 bl2 (.lst (vS [b0])) = H2 at e2 hbl2
          refine ⟨_, rfl, p, _, rfl, dkey (e2.at X.hp) X.k6, _, rfl, bl, _, 0, .str b0, rfl, rfl, SqL.of (e2.at hbl), atI_nat (j := 0) rfl, ad, _, rfl, dget_kv (.inl (e2.at X.hd)) hb0, _, _, rfl, ?_⟩
          obtain ⟨rr, r, par, err, er, epar, hrr2, nrr2, hpar, hpnd, hpz, hmrg⟩ : ∃ rr r par, rr = fo b0 ∧ r = (U.cl b0).line ∧ par = [b0] ∧ H2 rr = some (.lst (vS r)) ∧ rr ≠ an ∧ (∀ b ∈ par, b ∈ U.names) ∧ par.Nodup ∧ par.length ≤ 3 ∧ mrg (par.map (fun p => (U.cl p).line) ++ [par]) = some r :=
            ⟨fo b0, _, [b0], rfl, rfl, rfl, e2.at (X.vo b0 hb0), O.soa b0 hb0, fun b hb => (by rw [List.mem_singleton.mp hb]; exact hb0), by simp, (by decide : 1 ≤ 3), by
              show mrg [(U.cl b0).line, [b0]] = _
              rw [hl0]
              exact mrg_back hnd0⟩
          rw [← err]
          rw [← epar] at hbl2
          have hrin : ∀ m ∈ r, m ∈ U.names := fun m hm => by rw [er] at hm; exact B.ok.line b0 hb0 m hm
          have hrl2 : r.length ≤ 20 := by rw [er]; exact B.ok.lsz b0 hb0
          have X2 := X.monoB e2.b
          have han2 := X2.hn
          have hp7 : p ∉ [an, ab, ao, as, ar, ad, al] := by
            rw [List.mem_cons, not_or]
            exact ⟨fun z => (by have := X2.hp; rw [z, X2.hn] at this; cases this), (List.nodup_cons.mp O.dst).1⟩
          have nd7 : [an, ab, ao, as, ar, ad, al].Nodup := by
            refine List.nodup_cons.mpr ⟨?_, (List.nodup_cons.mp O.dst).2⟩
            have q : ∀ {x : Addr} {kv : List (Key × V)}, H2 x = some (.dK kv) → an ≠ x := fun hx z => by rw [← z, X2.hn] at hx; cases hx
            simp only [List.mem_cons, List.not_mem_nil, or_false, not_or]
            exact ⟨q X2.hb, q X2.ho, q X2.hs, q X2.hr, q X2.hd, q X2.hl⟩
          have nlst : ∀ {x : Addr} {xs : List V}, H2 x = some (.lst xs) → x ≠ an → x ∉ [an, ab, ao, as, ar, ad, al] := fun {x xs} h h1 => by
            have q : ∀ {y : Addr} {kv : List (Key × V)}, H2 y = some (.dK kv) → x ≠ y := fun hy z => by rw [← z, h] at hy; cases hy
            simp only [List.mem_cons, List.not_mem_nil, or_false, not_or]
            exact ⟨h1, q X2.hb, q X2.ho, q X2.hs, q X2.hr, q X2.hd, q X2.hl⟩
          have hsg2 := e2.at hsg
          have nsg : sg ∉ [an, ab, ao, as, ar, ad, al] := by
            rw [List.mem_cons, not_or]
            exact ⟨fun z => (by rw [z, X2.hn] at hsg2; cases hsg2), nsg6⟩
          have nbl := nlst hbl2 nbl2
          have nrr := nlst hrr2 nrr2
          have S0 : Stg H0 H2 [an, ab, ao, as, ar, ad, al] H2 [an, ab, ao, as, ar, ad, al] [_, _, _, _, _, _, _] := ⟨e0.trans e2.b, nd7, fun _ _ _ h _ => h, .cons X2.hn (.cons X2.hb (.cons X2.ho (.cons X2.hs (.cons X2.hr (.cons X2.hd (.cons X2.hl .nil)))))), fun o ho => by
            simp only [List.mem_cons, List.not_mem_nil, or_false] at ho
            rcases ho with z | z | z | z | z | z | z <;> subst z <;> rfl, fun a ha => by
            refine ⟨.inl ha, ?_⟩
            simp only [List.mem_cons, List.not_mem_nil, or_false] at ha
            rcases ha with z | z | z | z | z | z | z <;> subst z
            · exact O.fan
            · exact O.fab
            · exact O.fao
            · exact O.fas
            · exact O.far
            · exact O.fad
            · exact O.fal, fun a ha => ha⟩
          have hnl := B.ok.sz
          have hkz : ∀ f : Str → Addr, (kvR U.names f).length < sizeLine := fun f => sz5' (by rw [kvR_len]; omega)
          refine ⟨_, rfl, p, _, rfl, dkey X2.hp X2.k1, .inl ⟨rfl, _, SqL.of X2.hn⟩, _, rfl, an, _, _, rfl, rfl, X2.hn, sz5' (by rw [vS_len]; omega), ?_⟩
          rw [show vS U.names ++ [V.str n] = vS (U.names ++ [n]) from (by rw [vS_app]; rfl)]
          have S1 := S0.put 0 (a := an) (o := .lst (vS (U.names ++ [n]))) rfl rfl
          generalize upd H2 an (.lst (vS (U.names ++ [n]))) = H3 at S1
          refine ⟨_, rfl, bl2, _, rfl, .inl (SqL.of (S1.kp bl2 _ nbl hbl2 rfl)), fun b' hb' => ⟨_, rfl, p, _, rfl, dkey ((Le.new hb').at (S1.kp p _ hp7 X2.hp rfl)) X2.k2, _, rfl, ?_⟩⟩
          have S2 := S1.new (o := .lst (vS par)) hb' rfl
          refine ⟨ab, _, rfl, .inl ⟨_, Sum.inr n, S2.get 1 rfl rfl, rfl, hkz _, rfl⟩, ?_⟩
          rw [kvR_put hn]
          have S3 := S2.put 1 (a := ab) (o := .dK (kvR (U.names ++ [n]) fun m => if m = n then b' else fb m)) rfl rfl
          generalize upd (upd H3 b' (.lst (vS par))) ab (.dK (kvR (U.names ++ [n]) fun m => if m = n then b' else fb m)) = H4 at S3
          refine ⟨_, rfl, _, rfl, p, _, rfl, dkey (S3.kp p _ hp7 X2.hp rfl) X2.k3, _, rfl, ao, _, rfl, .inl ⟨_, Sum.inr n, S3.get 2 rfl rfl, rfl, sz5' (by rw [List.length_map]; omega), rfl⟩, ?_⟩
          rw [putN_new hn]
          have S4 := S3.put 2 (a := ao) (o := .dK ((U.names ++ [n]).map fun m => ((Sum.inr m : Key), if m = n then V.bl own else V.bl (U.cl m).own))) rfl rfl
          generalize upd H4 ao (.dK ((U.names ++ [n]).map fun m => ((Sum.inr m : Key), if m = n then V.bl own else V.bl (U.cl m).own))) = H5 at S4
          refine ⟨_, rfl, sg, _, rfl, .inl (S4.kp sg _ nsg hsg2 rfl), fun s' hs' => ⟨_, rfl, p, _, rfl, dkey ((Le.new hs').at (S4.kp p _ hp7 X2.hp rfl)) X2.k4, _, rfl, ?_⟩⟩
          have S5 := S4.new (o := .dK (kvM ms)) hs' rfl
          refine ⟨as, _, rfl, .inl ⟨_, Sum.inr n, S5.get 3 rfl rfl, rfl, hkz _, rfl⟩, ?_⟩
          rw [kvR_put hn]
          have S6 := S5.put 3 (a := as) (o := .dK (kvR (U.names ++ [n]) fun m => if m = n then s' else fs m)) rfl rfl
          generalize upd (upd H5 s' (.dK (kvM ms))) as (.dK (kvR (U.names ++ [n]) fun m => if m = n then s' else fs m)) = H6 at S6
          refine ⟨_, rfl, (by decide : 1 ≤ sizeLine), fun q hq => ?_⟩
          have eq := Le.new (o := .lst [V.str n]) hq
          have S6q := S6.mono eq
          have hqq : (upd H6 q (.lst [V.str n])) q = some (.lst [V.str n]) := upd_same
          generalize upd H6 q (.lst [V.str n]) = H7 at S6q hqq
          have hrr7 := S6q.kp rr _ nrr hrr2 rfl
          refine ⟨_, rfl, q, rr, _, _, rfl, rfl, hqq, hrr7, sz5 (by rw [vS_len]; show 1 + _ ≤ _; omega), fun o' ho' => ⟨_, rfl, p, _, rfl, dkey ((Le.new ho').at (S6q.kp p _ hp7 X2.hp rfl)) X2.k6, _, rfl, ?_⟩⟩
          rw [show ([V.str n] ++ vS r) = vS (n :: r) from rfl]
          have S7 := S6q.new (o := .lst (vS (n :: r))) ho' rfl
          refine ⟨ad, _, rfl, .inl ⟨_, Sum.inr n, S7.get 5 rfl rfl, rfl, hkz _, rfl⟩, ?_⟩
          rw [kvR_put hn]
          have S8 := S7.put 5 (a := ad) (o := .dK (kvR (U.names ++ [n]) fun m => if m = n then o' else fo m)) rfl rfl
          generalize upd (upd H7 o' (.lst (vS (n :: r)))) ad (.dK (kvR (U.names ++ [n]) fun m => if m = n then o' else fo m)) = H8 at S8
          refine ⟨(by decide : 0 ≤ sizeLine), fun l' hl' => ⟨_, rfl, p, _, rfl, dkey ((Le.new hl').at (S8.kp p _ hp7 X2.hp rfl)) X2.k7, _, rfl, ?_⟩⟩
          have S9 := S8.new (o := .lst []) hl' rfl
          refine ⟨al, _, rfl, .inl ⟨_, Sum.inr n, S9.get 6 rfl rfl, rfl, hkz _, rfl⟩, ?_⟩
          rw [kvR_put hn]
          have S10 := S9.put 6 (a := al) (o := .dK (kvR (U.names ++ [n]) fun m => if m = n then l' else fl m)) rfl rfl
          generalize upd (upd H8 l' (.lst [])) al (.dK (kvR (U.names ++ [n]) fun m => if m = n then l' else fl m)) = H9 at S10
          refine ⟨_, rfl, p, _, rfl, dkey (S10.kp p _ hp7 X2.hp rfl) X2.k5, _, rfl, ar, _, rfl, .inl ⟨_, Sum.inr n, S10.get 4 rfl rfl, rfl, sz5' (by rw [List.length_map]; omega), rfl⟩, ?_⟩
          rw [putN_new hn]
          have S11 := S10.put 4 (a := ar) (o := .dK ((U.names ++ [n]).map fun m => ((Sum.inr m : Key), if m = n then V.non else rv m))) rfl rfl
          generalize upd H9 ar (.dK ((U.names ++ [n]).map fun m => ((Sum.inr m : Key), if m = n then V.non else rv m))) = H10 at S11
          have fresh : ∀ {x : Addr} {i : Nat}, 7 ≤ i → ([an, ab, ao, as, ar, ad, al] ++ [b'] ++ [s'] ++ [o'] ++ [l'])[i]? = some x → Fre H2 x := fun {x i} hi hx => by
            rcases (S11.fr x (List.mem_of_getElem? hx)).1 with z | z
            · obtain ⟨j, hj, e⟩ := List.mem_iff_getElem.mp z
              have hj' : ([an, ab, ao, as, ar, ad, al] ++ [b'] ++ [s'] ++ [o'] ++ [l'])[j]? = some x := by
                rw [List.append_assoc, List.append_assoc, List.append_assoc, List.getElem?_append_left hj, List.getElem?_eq_getElem hj, e]
              have hjl : j < ([an, ab, ao, as, ar, ad, al] ++ [b'] ++ [s'] ++ [o'] ++ [l']).length := (List.getElem?_eq_some_iff.mp hj').1
              have w := (List.getElem?_inj hjl S11.nd).mp (hj'.trans hx.symm)
              have hj7 : j < 7 := hj
              omega
            · exact z
          have ndl : l' ≠ b' ∧ l' ≠ o' := by
            have q := S11.nd
            refine ⟨fun z => ?_, fun z => ?_⟩
            · have w := (List.getElem?_inj (show 10 < ([an, ab, ao, as, ar, ad, al] ++ [b'] ++ [s'] ++ [o'] ++ [l']).length from (by decide : (10 : Nat) < 11)) q).mp (show ([an, ab, ao, as, ar, ad, al] ++ [b'] ++ [s'] ++ [o'] ++ [l'])[10]? = ([an, ab, ao, as, ar, ad, al] ++ [b'] ++ [s'] ++ [o'] ++ [l'])[7]? from congrArg some z)
              cases w
            · have w := (List.getElem?_inj (show 10 < ([an, ab, ao, as, ar, ad, al] ++ [b'] ++ [s'] ++ [o'] ++ [l']).length from (by decide : (10 : Nat) < 11)) q).mp (show ([an, ab, ao, as, ar, ad, al] ++ [b'] ++ [s'] ++ [o'] ++ [l'])[10]? = ([an, ab, ao, as, ar, ad, al] ++ [b'] ++ [s'] ++ [o'] ++ [l'])[9]? from congrArg some z)
              cases w
          have fin : ∀ (c : Cl) (v : V) (H' : Hp) (os : List HO), c.par = par → c.own = own → c.marks = ms → c.line = n :: r → RuleAt H' v c.hook c.passed → Stg H0 H2 [an, ab, ao, as, ar, ad, al] H' ([an, ab, ao, as, ar, ad, al] ++ [b'] ++ [s'] ++ [o'] ++ [l']) os →
              os = [.lst (vS (U.names ++ [n])), .dK (kvR (U.names ++ [n]) fun m => if m = n then b' else fb m), .dK ((U.names ++ [n]).map fun m => ((Sum.inr m : Key), if m = n then V.bl own else V.bl (U.cl m).own)), .dK (kvR (U.names ++ [n]) fun m => if m = n then s' else fs m), .dK ((U.names ++ [n]).map fun m => ((Sum.inr m : Key), if m = n then v else rv m)), .dK (kvR (U.names ++ [n]) fun m => if m = n then o' else fo m), .dK (kvR (U.names ++ [n]) fun m => if m = n then l' else fl m), .lst (vS par), .dK (kvM ms), .lst (vS (n :: r)), .lst []] → PlnE H0 H' p (U.add n c) kvs an ab ao as ar ad al := fun c v H' os q1 q2 q3 q4 q5 S eo => by
            subst eo
            refine pln_add (b' := b') (s' := s') (o' := o') (l' := l') (v := v) X2 O (e0.trans e2.b) hn S.kp (S.get 0 rfl rfl) (S.get 1 rfl rfl) ?_ (S.get 3 rfl rfl) (S.get 4 rfl rfl) (S.get 5 rfl rfl) (S.get 6 rfl rfl) ?_ ?_ ?_ (S.get 10 rfl rfl) q5 (fresh (i := 7) (by decide) rfl) (fresh (i := 8) (by decide) rfl) (fresh (i := 9) (by decide) rfl) (fresh (i := 10) (by decide) rfl) ndl.1 ndl.2
            · rw [S.get 2 rfl rfl]
              congr 2
              refine List.map_congr_left fun m _ => ?_
              show ((Sum.inr m : Key), if m = n then V.bl own else V.bl (U.cl m).own) = (Sum.inr m, V.bl (if m = n then c else U.cl m).own)
              by_cases z : m = n
              · rw [if_pos z, if_pos z, q2]
              · rw [if_neg z, if_neg z]
            · rw [q1]; exact S.get 7 rfl rfl
            · rw [q3]; exact S.get 8 rfl rfl
            · rw [q4]; exact S.get 9 rfl rfl
          have N0 : NewCl U n ⟨par, own, ms, none, false, n :: r⟩ := ⟨hnm, hn, hpar, hpnd, hpz, hms, hmd, fun h z => (by cases z), ⟨r, rfl, hmrg⟩⟩
          have P0 := fin ⟨par, own, ms, none, false, n :: r⟩ .non H10 _ rfl rfl rfl rfl ⟨rfl, rfl⟩ S11 rfl
          refine ⟨_, rfl, _, rfl, p, U.add n ⟨par, own, ms, none, false, n :: r⟩, n, rfl, P0.f.at_, B.ok.add N0 hz20, List.mem_append_right _ List.mem_cons_self, fun H11 e11 => ⟨_, rfl, ?_⟩⟩
          cases hsw : (U.add n ⟨par, own, ms, none, false, n :: r⟩).sworn n with
          | false => exact iteF (k _ _ N0 (S11.le.trans e11.b) (P0.monoB e11.b) fun x o h1 h2 h3 => e11.at (S11.kp x o h1 (e2.at h2 h3) h3) h3)
          | true =>
            have S12 := S11.mono e11
            refine iteT ⟨_, rfl, _, rfl, p, _, rfl, dkey (S12.kp p _ hp7 X2.hp rfl) X2.k5, _, rfl, ar, _, rfl, .inl ⟨_, Sum.inr n, S12.get 4 rfl rfl, rfl, sz5' (by rw [List.length_map, List.length_append]; show _ + 1 < _; omega), rfl⟩, ?_⟩
            rw [putN_set (List.mem_append_right _ List.mem_cons_self), show ((U.names ++ [n]).map fun m => ((Sum.inr m : Key), if m = n then rl else if m = n then V.non else rv m)) = (U.names ++ [n]).map fun m => ((Sum.inr m : Key), if m = n then rl else rv m) from List.map_congr_left fun m _ => by by_cases z : m = n; rw [if_pos z, if_pos z]; rw [if_neg z, if_neg z, if_neg z]]
            have S13 := S12.put 4 (a := ar) (o := .dK ((U.names ++ [n]).map fun m => ((Sum.inr m : Key), if m = n then rl else rv m))) rfl rfl
            generalize upd H11 ar (.dK ((U.names ++ [n]).map fun m => ((Sum.inr m : Key), if m = n then rl else rv m))) = H12 at S13
            have KI : KeepI H2 H12 := fun x u hx im => S13.kp x u (fun hm => by
              have hd : ∀ {y : Addr} {u2 : HO}, H2 y = some u2 → immO u2 = false → x ≠ y := fun hy i z => by rw [← z, hx] at hy; cases hy; rw [im] at i; cases i
              simp only [List.mem_cons, List.not_mem_nil, or_false] at hm
              rcases hm with z | z | z | z | z | z | z
              · exact hd X2.hn rfl z
              · exact hd X2.hb rfl z
              · exact hd X2.ho rfl z
              · exact hd X2.hs rfl z
              · exact hd X2.hr rfl z
              · exact hd X2.hd rfl z
              · exact hd X2.hl rfl z) hx (imm_plain im)
            refine k ⟨par, own, ms, h, ps, n :: r⟩ _ ⟨hnm, hn, hpar, hpnd, hpz, hms, hmd, fun hk z => ⟨hhk hk z, new_sworn (c0 := ⟨par, own, ms, none, false, n :: r⟩) B hn hpar hmrg rfl rfl hrin hsw⟩, ⟨r, rfl, hmrg⟩⟩ S13.le ?_ (fun x o h1 h2 h3 => S13.kp x o h1 (e2.at h2 h3) h3)
            exact fin ⟨par, own, ms, h, ps, n :: r⟩ rl H12 _ rfl rfl rfl rfl ((hrl.monoB e2.b).keep KI) S13 rfl
  exact ⟨⟨_, fd, G, T.g_Lmake, F.kp, F.bindsN (ps := ["_law_plain", "_law_name", "_law_bases", "_law_oath", "_law_signs", "_law_rule"]) fun _ _ _ _ _ _ us hl => match us, hl with | [_, _, _, _, _, _], _ => rfl⟩⟩

end
end Sw
set_option linter.all false
set_option maxRecDepth 100000
set_option maxHeartbeats 4000000
/-! SwF32: a new rule is drawn. Terms printed by gen_term.py. -/
namespace Sw
open PySem PySem.Spec PyProof.Rows L2 LamX
section
variable {P : Program} {w : World} {K : PySem.W.Frag} {mg : Str → Option Value} {base : Heap}


@[irreducible] def spLTakeI : Sp := spLTake
theorem spLTakeI_eq : spLTakeI = spLTake := by unfold spLTakeI; rfl
@[irreducible] def spLPickI (K : PySem.W.Frag) : Sp := spLPick K
theorem spLPickI_eq : spLPickI K = spLPick K := by unfold spLPickI; rfl
theorem take_k {H : Hp} {b : Addr} {N : Nat} {m : Int} {Q : VK} {E : XK} (hB : BagAt H b N) (hN : N ≤ 1000000) (hm : 0 < m) (hm2 : m ≤ 1000) (k : ∀ r H', 0 ≤ r → r < m → LeB H H' → BagAt H' b (N + 1) → (∀ a, a ≠ b → H' a = H a) → Q (.int r) H') : spLTakeI [.ref b, .int m] H Q E := by
  obtain ⟨x0, y0, c0, hb, hI⟩ := id hB
  rw [spLTakeI_eq]
  exact ⟨b, N, m, rfl, hB, hN, hm, hm2, fun r x y c h0 h1 hI => k r _ h0 h1 (LeB.bag hb) ⟨x, y, c, upd_same, hI⟩ fun a ha => upd_ne ha⟩
theorem pick_k {H : Hp} {b l : Addr} {N : Nat} {xs : List V} {Q : VK} {E : XK} (hB : BagAt H b N) (hN : N ≤ 1000000) (hl : H l = some (.lst xs)) (hlb : l ≠ b) (hne : xs ≠ []) (hz : xs.length ≤ 1000) (k : ∀ v H', v ∈ xs → LeB H H' → BagAt H' b (N + 1) → (∀ a, a ≠ b → H' a = H a) → Q v H') : spLPickI K [.ref b, .ref l] H Q E := by
  obtain ⟨x0, y0, c0, hb, hI⟩ := id hB
  rw [spLPickI_eq]
  exact ⟨b, N, l, xs, rfl, hB, hN, hl, hlb, hne, hz, fun v x y c h1 hI => k v _ h1 (LeB.bag hb) ⟨x, y, c, upd_same, hI⟩ fun a ha => upd_ne ha⟩
theorem BagAt.ne {H : Hp} {b a : Addr} {N : Nat} {o : HO} (hB : BagAt H b N) (ha : H a = some o) (ho : ∀ x y c, o ≠ bagO x y c) : a ≠ b := fun z => by
  obtain ⟨x, y, c, hb, _⟩ := hB
  rw [z, hb] at ha
  exact ho x y c (Option.some.inj ha).symm
theorem vS_nb (l : List Str) : ∀ x y c, HO.lst (vS l) ≠ bagO x y c := fun x y c h => by
  have h2 : vS l = [.int x, .int y, .int c] := HO.lst.inj h
  cases l with
  | nil => cases h2
  | cons a r => cases h2
theorem BagAt.lt {H : Hp} {b : Addr} {N M : Nat} (hB : BagAt H b N) (h : N ≤ M) : BagAt H b M := by
  obtain ⟨x, y, c, hb, hI⟩ := hB
  exact ⟨x, y, c, hb, hI.x0, hI.y0, hI.y1, hI.c0, Int.le_trans hI.c1 (by omega)⟩
theorem BagAt.new {H : Hp} {b p : Addr} {N : Nat} {o : HO} (hB : BagAt H b N) (hp : H p = none) : BagAt (upd H p o) b N := by
  obtain ⟨x, y, c, hb, hI⟩ := hB
  exact ⟨x, y, c, (upd_ne (ne_of_none hb hp)).trans hb, hI⟩
theorem BagAt.upd {H : Hp} {b p : Addr} {N : Nat} {o : HO} (hB : BagAt H b N) (hp : p ≠ b) : BagAt (L2.upd H p o) b N := by
  obtain ⟨x, y, c, hb, hI⟩ := hB
  exact ⟨x, y, c, (upd_ne hp.symm).trans hb, hI⟩
theorem BagAt.mono {H H' : Hp} {b : Addr} {N : Nat} (hB : BagAt H b N) (e : Le H H') : BagAt H' b N := by
  obtain ⟨x, y, c, hb, hI⟩ := hB
  exact ⟨x, y, c, e.at hb, hI⟩
theorem cut_n (l : List Str) (k : Nat) : cutV (vS l) none (some (k : Int)) = vS (l.take k) := by
  unfold cutV
  rw [show HT.sIx (vS l).length (vS l).length (some (k : Int)) = min k (vS l).length from HT.sIx_nat _ _ k, HT.sIx_none, List.drop_zero, Nat.sub_zero]
  unfold vS
  rw [List.map_take, List.length_map]
  by_cases h : k ≤ l.length
  · rw [Nat.min_eq_left h]
  · rw [Nat.min_eq_right (by omega), List.take_of_length_le (by rw [List.length_map]; exact Nat.le_refl _), List.take_of_length_le (by rw [List.length_map]; omega)]
def spLNewRule : Sp := fun vs H Q _ => ∃ b N ml ms, vs = [.ref b, .ref ml] ∧ BagAt H b N ∧ N ≤ 900000 ∧ H ml = some (.lst (vS ms)) ∧ (∀ m ∈ ms, m ∈ Tb.METHS) ∧ ms.Nodup ∧
  ∀ v H' h ps, LeB H H' → BagAt H' b (N + 30) → RuleAt H' v h ps → (∀ hk, h = some hk → HkOk hk) → Q v H'

theorem sc_Lnew_rule : FnScope ["_law_bag_here", "_law_methods", "_law_found", "_law_turn", "_law_wanted", "_law_method"] ["_law_bag_here", "_law_methods"] (defScope s_Lnew_rule) := ⟨rfl, rfl, rfl, by decide +kernel, rfl, by decide +kernel, by decide +kernel⟩
theorem ok_Lnew_rule (T : Tx K mg) (c_Ltake : Cal P w K mg base "_law_take" 1 ["_law_bag_here", "_law_many"] spLTakeI) : Cal P w K mg base "_law_new_rule" 3 ["_law_bag_here", "_law_methods"] spLNewRule := by
  obtain ⟨fd, F⟩ := T.fn _ fi_Lnew_rule
  have G : FnOk P w K mg base CX0 3 d_Lnew_rule.f fd ["_law_bag_here", "_law_methods"] spLNewRule := by
    refine F.ok sc_Lnew_rule (fun vs H Q E h => ?_) (fun cdv A outer s H vs Q E hr h => ⟨_, PSs.nox (X := cxOf CX0 P w K mg base _ _ _ _ cdv A outer s H E) ((pss_cons (ps_if (pt_cmpR op_lt (pc c_Ltake (hr.mono (by decide : 1 ≤ _)) rfl (pa_cons (pv 0) (pa_cons pe_int pa_nil))) pe_int (nomark _)) (pss_one (ps_ret pe_non)) pss_nil)
    (pss_cons (ps_set (i := 2) sc_Lnew_rule.nd rfl (Or.inl rfl) (pe_lst pa_nil))
    (pss_cons (ps_for PassesOwn.never rfl (pi_range1 (by rfl) T.f_range (pa_cons (pe_op op_add pe_int (pc c_Ltake (hr.mono (by decide : 1 ≤ _)) rfl (pa_cons (pv 0) (pa_cons pe_int pa_nil)))) pa_nil)) (pg_name (i := 3) sc_Lnew_rule.nd rfl (Or.inl rfl)) (pss_cons (ps_set (i := 4) sc_Lnew_rule.nd rfl (Or.inl rfl) (pe_callTy (wtupof K) (by rfl) T.f_tuple bb_tuple (pa_cons (pe_slice (wsll K) (pe_lc (own := [("_law_method", 5)]) rfl sc_Lnew_rule.nd (wlist K (pv 1)) (blkOk_by (N := ["_law_bag_here", "_law_methods", "_law_found", "_law_turn", "_law_wanted", "_law_method"]) (sc := defScope s_Lnew_rule) (own := [("_law_method", 5)]) (by decide +kernel)) (fun _ _ _ _ _ => (pg_name (i := 5) sc_Lnew_rule.nd rfl (Or.inl rfl))) (fun _ _ _ _ _ => (pts_one (pt_cmpR op_eq (pc c_Ltake (hr.mono (by decide : 1 ≤ _)) rfl (pa_cons (pv 0) (pa_cons pe_int pa_nil))) pe_int (nomark _)))) (fun _ _ _ _ _ => (pv 5))) po_none (po_some pe_int)) pa_nil)))
    (pss_one (ps_expr (wapp K (pv 2) (pe_tup (pa_cons (pv 4) (pa_cons (pe_cmpR op_eq (pc c_Ltake (hr.mono (by decide : 1 ≤ _)) rfl (pa_cons (pv 0) (pa_cons pe_int pa_nil))) pe_int (nomark _)) pa_nil))))))))
    (pss_one (ps_ret (pe_tup (pa_cons (pe_callTy (wtupof K) (by rfl) T.f_tuple bb_tuple (pa_cons (pv 2) pa_nil)) (pa_cons (pe_cmpR op_eq (pc c_Ltake (hr.mono (by decide : 1 ≤ _)) rfl (pa_cons (pv 0) (pa_cons pe_int pa_nil))) pe_int (nomark _)) pa_nil))))))))), ?_⟩)
    · obtain ⟨_, _, _, _, rfl, _⟩ := h
      rfl
    · obtain ⟨b, N, ml, ms, rfl, hB, hN, hml, hms, hmd, k⟩ := h
      have hmz : ms.length ≤ 5 := length_le_of_nodup_of_subset ms Tb.METHS hmd hms
      refine ⟨_, rfl, take_k hB (by omega) (by decide) (by decide) fun r0 H1 h0 h1 e1 B1 u1 => ⟨_, _, rfl, rfl, _, rfl, ?_⟩⟩
      cases decide (r0 < 2) with
      | true => exact iteT (k .non H1 none false e1 (B1.lt (by omega)) ⟨rfl, rfl⟩ fun hk z => by cases z)
      | false =>
        refine iteF ⟨(by decide : 0 ≤ sizeLine), fun f hf => ?_⟩
        have fr : FreB H f := e1.fre (Fre.of hf).b
        have e2 := e1.trans (Le.new (o := .lst []) hf).b
        have B2 := B1.new (o := .lst []) hf
        have hf2 : (upd H1 f (.lst [])) f = some (.lst []) := upd_same
        generalize upd H1 f (.lst []) = H2 at e2 B2 hf2
        show gName 2 _ _ _ _
        refine ⟨_, rfl, take_k B2 (by omega) (by decide) (by decide) fun r2 H3 h20 h21 e3 B3 u3 => ⟨_, _, rfl, rfl, 1 + r2, rfl, by omega, by omega, ?_⟩⟩
        have nfb := B2.ne hf2 (vS_nb [])
        refine for_it (walk_range (lo := 0) (n := (1 + r2).toNat)) (fun i σ Hc => ∃ v3 v4 v5 cs h, σ = [some (.ref b), some (.ref ml), some (.ref f), v3, v4, v5] ∧ LeB H Hc ∧ BagAt Hc b (N + 2 + 6 * i) ∧ Hc f = some (.lst cs) ∧ Paired (ClauseAt Hc) cs h ∧ h.length = i ∧ (∀ c ∈ h, ∀ m ∈ c.1, m ∈ Tb.METHS) ∧ (∀ c ∈ h, c.1.Nodup)) ⟨none, none, none, [], [], rfl, e2.trans e3, B3, (u3 f nfb).trans hf2, .nil, rfl, fun c hc => (by cases hc), fun c hc => (by cases hc)⟩ (fun i σ H' _ _ => trivial) ?_ ?_
        · rintro i x σ Ha Hb hi ⟨v3, v4, v5, cs, h, rfl, e, B, hfc, hcs, hlen, hmt, hnd⟩ ⟨rfl, rfl⟩
          have hi3 : i < 3 := by omega
          have hml2 := e.at hml (keep_vS _)
          refine ⟨_, rfl, ml, rfl, ⟨_, SqL.of hml2⟩, fun D hD => ?_⟩
          refine lc_it (ws_list (K := K) (a := ml) (l := ms)) (fun j H' => ∃ acc, LeB Hb H' ∧ H' D = some (.lst (vS acc)) ∧ BagAt H' b (N + 2 + 6 * i + j) ∧ acc.Sublist (ms.take j) ∧ H' f = some (.lst cs)) ⟨[], (Le.new hD).b, upd_same, B.new hD, List.nil_sublist _, (Le.new hD).at hfc⟩ (fun j H' _ ⟨acc, q1, _⟩ => SqL.of (q1.at hml2 (keep_vS _))) ?_ ?_
          · rintro j y Hc Hd hj ⟨acc, q1, q2, q3, q4, q5⟩ ⟨rfl, z, hz, rfl⟩
            have nDb := q3.ne q2 (vS_nb acc)
            have nfb := q3.ne q5 (fun x y c hh => by
              have hh2 := HO.lst.inj hh
              rw [hh2] at hcs
              cases hcs with | cons hc _ => ?_
              obtain ⟨a, m, w, _⟩ := hc
              cases w)
            refine ⟨rfl, _, rfl, take_k q3 (by omega) (by decide) (by decide) fun r5 H5 h50 h51 e5 B5 u5 => ⟨rfl, _, rfl, ?_⟩⟩
            have nDf : f ≠ D := fun w => by rw [← w, hfc] at hD; cases hD
            have frD : FreB Hb D := (Fre.of hD).b
            cases decide (V.int r5 = V.int 0) with
            | true =>
              refine iteT ⟨_, rfl, _, (u5 D nDb).trans q2, sz5' ?_, acc ++ [z], (q1.trans e5).mutF frD ((u5 D nDb).trans q2) rfl, ?_, ?_, ?_, ?_⟩
              · have := q4.length_le
                rw [List.length_take] at this
                rw [vS_len]; omega
              · rw [upd_same, vS_app]; rfl
              · exact B5.upd nDb
              · rw [take_snoc hz]
                exact q4.append (List.Sublist.refl _)
              · rw [upd_ne nDf]
                exact (u5 f nfb).trans q5
            | false =>
              refine iteF ⟨acc, q1.trans e5, (u5 D nDb).trans q2, B5, ?_, (u5 f nfb).trans q5⟩
              rw [take_snoc hz]
              exact q4.trans (List.sublist_append_left _ _)
          · rintro Hc ⟨acc, q1, q2, q3, q4, q5⟩
            rw [List.take_length] at q4
            refine ⟨3, rfl, D, _, rfl, SqL.of q2, fun p hp => ?_⟩
            rw [show cutV (vS acc) none (some 3) = vS (acc.take 3) from cut_n acc 3]
            have e6 := Le.new (o := .lst (vS (acc.take 3))) hp
            refine ⟨p, _, rfl, .inl ⟨SqL.of upd_same, fun tp htp => ?_⟩⟩
            have e7 := Le.new (o := .tup (vS (acc.take 3))) htp
            have e67 := e6.trans e7
            have q3' := q3.mono e67
            have q5' := e67.at q5
            have q6 : (upd (upd Hc p (.lst (vS (acc.take 3)))) tp (.tup (vS (acc.take 3)))) tp = some (.tup (vS (acc.take 3))) := upd_same
            have q1' := q1.trans e67.b
            generalize upd (upd Hc p (.lst (vS (acc.take 3)))) tp (.tup (vS (acc.take 3))) = Hd at q1' q3' q5' q6
            show gName 4 _ _ _ _
            refine ⟨_, rfl, .inl ⟨rfl, _, SqL.of q5'⟩, _, rfl, _, rfl, take_k q3' (by omega) (by decide) (by decide) fun r7 H7 h70 h71 e8 B8 u8 => ⟨rfl, (by decide : 2 ≤ sizeLine), fun q hq => ?_⟩⟩
            have nfb : f ≠ b := q3'.ne q5' (fun x y c hh => by
              have hh2 := HO.lst.inj hh
              rw [hh2] at hcs
              cases hcs with | cons hc _ => ?_
              obtain ⟨a, m, w, _⟩ := hc
              cases w)
            have q5c := (u8 f nfb).trans q5'
            have q6c := e8.at q6
            generalize decide (V.int r7 = V.int 0) = bb at hq
            have e9 := Le.new (o := .tup [V.ref tp, V.bl bb]) hq
            have q5d := e9.at q5c
            have hcl := Paired.length hcs
            refine ⟨f, _, _, rfl, rfl, q5d, sz5' (by omega), ?_⟩
            have eT := (e.trans q1').trans (e8.trans e9.b)
            have KI := KeepI.upd (o' := .lst (cs ++ [V.ref q])) q5d rfl
            have hB9 := (B8.mono e9).upd (o := .lst (cs ++ [V.ref q])) nfb
            have hc9 : Paired (ClauseAt (upd H7 q (.tup [V.ref tp, V.bl bb]))) cs h := Paired.mapP hcs fun _ _ w => w.monoB (q1'.trans (e8.trans e9.b))
            have hq9 : (upd H7 q (.tup [V.ref tp, V.bl bb])) q = some (.tup [V.ref tp, V.bl bb]) := upd_same
            have ht9 := e9.at q6c
            generalize upd H7 q (.tup [V.ref tp, V.bl bb]) = H8 at q5d eT KI hB9 hc9 hq9 ht9
            have hsub : ∀ m ∈ acc.take 3, m ∈ ms := fun m hm => q4.subset (List.mem_of_mem_take hm)
            refine ⟨_, _, _, cs ++ [V.ref q], h ++ [(acc.take 3, bb)], rfl, eT.mutF fr q5d rfl, hB9.lt (by omega), upd_same, ?_, by rw [List.length_append, hlen]; rfl, fun c hc m hm => ?_, fun c hc => ?_⟩
            · refine Paired.snoc (Paired.mapP hc9 fun _ _ w => w.keep KI) ⟨q, tp, rfl, KI _ _ hq9 rfl, KI _ _ ht9 rfl⟩
            · rcases List.mem_append.mp hc with w | w
              · exact hmt c w m hm
              · rw [List.mem_singleton.mp w] at hm
                exact hms m (hsub m hm)
            · rcases List.mem_append.mp hc with w | w
              · exact hnd c w
              · rw [List.mem_singleton.mp w]
                exact (hmd.sublist q4).sublist (List.take_sublist ..)
        · rintro σ Hc ⟨v3, v4, v5, cs, h, rfl, e, B, hfc, hcs, hlen, hmt, hnd⟩
          have hn3 : (1 + r2).toNat ≤ 3 := by omega
          refine ⟨_, rfl, f, _, rfl, .inl ⟨SqL.of hfc, fun t ht => ?_⟩⟩
          have et := Le.new (o := .tup cs) ht
          have ht2 : (upd Hc t (.tup cs)) t = some (.tup cs) := upd_same
          refine ⟨_, rfl, take_k (B.mono et) (by omega) (by decide) (by decide) fun r7 H7 h70 h71 e8 B8 u8 => ⟨rfl, (by decide : 2 ≤ sizeLine), fun q hq => ?_⟩⟩
          generalize decide (V.int r7 = V.int 0) = bb at hq
          have e9 := Le.new (o := .tup [V.ref t, V.bl bb]) hq
          have eZ := e8.trans e9.b
          refine k (.ref q) _ (some h) bb ((e.trans et.b).trans eZ) ((B8.mono e9).lt (by omega)) ⟨q, .ref t, rfl, upd_same, t, cs, rfl, eZ.at ht2, Paired.mapP hcs fun _ _ w => w.monoB (et.b.trans eZ)⟩ fun hk z => ?_
          cases z
          refine ⟨fun z => ?_, hmt, hnd, by omega⟩
          rw [z] at hlen
          have : (1 + r2).toNat ≠ 0 := by omega
          exact this hlen.symm
  exact ⟨⟨_, fd, G, T.g_Lnew_rule, F.kp, F.bindsN (ps := ["_law_bag_here", "_law_methods"]) fun _ _ _ _ _ _ us hl => match us, hl with | [_, _], _ => rfl⟩⟩

end
end Sw
set_option linter.all false
set_option maxRecDepth 100000
set_option maxHeartbeats 4000000
/-! SwF33: a class is drawn. Terms printed by gen_term.py. -/
namespace Sw
open PySem PySem.Spec PyProof.Rows L2 LamX
section
variable {P : Program} {w : World} {K : PySem.W.Frag} {mg : Str → Option Value} {base : Heap}


theorem erase_perm : ∀ {l : List Str} {k : Nat} {y : Str}, l[k]? = some y → (y :: l.eraseIdx k).Perm l
  | a :: l, 0, y, h => by cases h; exact List.Perm.refl _
  | a :: l, k + 1, y, h => by
    have h2 : l[k]? = some y := h
    exact (List.Perm.swap a y _).trans (List.Perm.cons a (erase_perm h2))
theorem vS_erase : ∀ (l : List Str) (k : Nat), (vS l).eraseIdx k = vS (l.eraseIdx k)
  | [], _ => rfl
  | a :: l, 0 => rfl
  | a :: l, k + 1 => congrArg (V.str a :: ·) (vS_erase l k)
theorem kvM_put {acc : List (Str × Str)} {z m : Str} (h : z ∉ acc.map (·.1)) : putK (kvM acc) (Sum.inr z) (.str m) = kvM (acc ++ [(z, m)]) := by
  rw [putK_new]
  · unfold kvM; rw [List.map_append]; rfl
  · unfold kvM
    rw [List.map_map]
    intro hm
    obtain ⟨p, hp, e⟩ := List.mem_map.mp hm
    exact h (List.mem_map.mpr ⟨p, hp, Sum.inr.inj e⟩)
def spLClass : Sp := fun vs H Q _ => ∃ b p n ml H0 U kvs an ab ao as ar ad al N ms, vs = [.ref b, .ref p, .str n, .ref ml] ∧ LeB H0 H ∧ PlnE H0 H p U kvs an ab ao as ar ad al ∧ Bare U ∧ U.names.length < 20 ∧ n ∈ Tb.NAMES ∧ n ∉ U.names ∧ BagAt H b N ∧ N ≤ 800000 ∧ H ml = some (.lst (vS ms)) ∧ (∀ m ∈ ms, m ∈ Tb.METHS) ∧ ms.Nodup ∧
  ∀ c H', NewCl U n c → LeB H0 H' → PlnE H0 H' p (U.add n c) kvs an ab ao as ar ad al → BagAt H' b (N + 60) → (∀ x o, x ∉ [an, ab, ao, as, ar, ad, al] → H x = some o → keepO o = true → H' x = some o) → Q .non H'

theorem sc_Lclass : FnScope ["_law_bag_here", "_law_plain", "_law_name", "_law_methods", "_law_left", "_law_bases", "_law_turn", "_law_signs", "_law_method"] ["_law_bag_here", "_law_plain", "_law_name", "_law_methods"] (defScope s_Lclass) := ⟨rfl, rfl, rfl, by decide +kernel, rfl, by decide +kernel, by decide +kernel⟩
theorem ok_Lclass (T : Tx K mg) (c_Ltake : Cal P w K mg base "_law_take" 1 ["_law_bag_here", "_law_many"] spLTakeI) (c_Lpick : Cal P w K mg base "_law_pick" 2 ["_law_bag_here", "_law_some"] (spLPickI K)) (c_Lmake : Cal P w K mg base "_law_make" 2 ["_law_plain", "_law_name", "_law_bases", "_law_oath", "_law_signs", "_law_rule"] spLMake) (c_Lnew_rule : Cal P w K mg base "_law_new_rule" 3 ["_law_bag_here", "_law_methods"] spLNewRule) : Cal P w K mg base "_law_class" 4 ["_law_bag_here", "_law_plain", "_law_name", "_law_methods"] spLClass := by
  obtain ⟨fd, F⟩ := T.fn _ fi_Lclass
  have G : FnOk P w K mg base CX0 4 d_Lclass.f fd ["_law_bag_here", "_law_plain", "_law_name", "_law_methods"] spLClass := by
    refine F.ok sc_Lclass (fun vs H Q E h => ?_) (fun cdv A outer s H vs Q E hr h => ⟨_, PSs.nox (X := cxOf CX0 P w K mg base _ _ _ _ cdv A outer s H E) ((pss_cons (ps_par (i := 4) (j := 5) rfl sc_Lclass.nd rfl rfl (by decide) rfl rfl (pa_cons (pe_callTy (wlistof K) (by rfl) T.f_list bb_list (pa_cons (pe_dget (hu_of hr) (pv 1) pe_str (fun _ _ => rfl)) pa_nil)) (pa_cons (pe_lst pa_nil) pa_nil)) (by rfl))
    (pss_cons (ps_for PassesOwn.never rfl (pi_range1 (by rfl) T.f_range (pa_cons (pe_callB (call_min2 rfl) (by rfl) T.f_min bb_min (pa_cons (pc c_Lpick (hr.mono (by decide : 2 ≤ _)) rfl (pa_cons (pv 0) (pa_cons (pe_lst (pa_cons pe_int (pa_cons pe_int (pa_cons pe_int (pa_cons pe_int (pa_cons pe_int (pa_cons pe_int pa_nil))))))) pa_nil))) (pa_cons (pe_callB (wlen K) (by rfl) T.f_len bb_len (pa_cons (pv 4) pa_nil)) pa_nil))) pa_nil)) (pg_name (i := 6) sc_Lclass.nd rfl (Or.inl rfl)) (pss_one (ps_expr (wapp K (pv 5) (pe_bm PySem.F.plainAttrs_list PySem.F.slot_list_pop PySem.F.type_list_pop mt_popAt (pv 4) (pa_cons (pc c_Ltake (hr.mono (by decide : 1 ≤ _)) rfl (pa_cons (pv 0) (pa_cons (pe_callB (wlen K) (by rfl) T.f_len bb_len (pa_cons (pv 4) pa_nil)) pa_nil))) pa_nil))))))
    (pss_cons (ps_set (i := 7) sc_Lclass.nd rfl (Or.inl rfl) pe_dnewK)
    (pss_cons (ps_for PassesOwn.never rfl (wlist K (pv 3)) (pg_name (i := 8) sc_Lclass.nd rfl (Or.inl rfl)) (pss_one (ps_if (pt_cmpR op_eq (pc c_Ltake (hr.mono (by decide : 1 ≤ _)) rfl (pa_cons (pv 0) (pa_cons pe_int pa_nil))) pe_int (nomark _)) (pss_one (ps_dput (hu_of hr) (pv 7) (pv 8) (pc c_Lpick (hr.mono (by decide : 2 ≤ _)) rfl (pa_cons (pv 0) (pa_cons (pe_lst (pa_cons pe_str (pa_cons pe_str (pa_cons pe_str pa_nil)))) pa_nil))) rfl)) pss_nil)))
    (pss_one (ps_expr (pc c_Lmake (hr.mono (by decide : 2 ≤ _)) rfl (pa_cons (pv 1) (pa_cons (pv 2) (pa_cons (pv 5) (pa_cons (pe_cmpR op_eq (pc c_Ltake (hr.mono (by decide : 1 ≤ _)) rfl (pa_cons (pv 0) (pa_cons pe_int pa_nil))) pe_int (nomark _)) (pa_cons (pv 7) (pa_cons (pc c_Lnew_rule hr rfl (pa_cons (pv 0) (pa_cons (pv 3) pa_nil))) pa_nil)))))))))))))), ?_⟩)
    · obtain ⟨_, _, _, _, _, _, _, _, _, _, _, _, _, _, _, _, rfl, _⟩ := h
      rfl
    · obtain ⟨b, p, n, ml, H0, U, kvs, an, ab, ao, as, ar, ad, al, N, ms, rfl, e0, ⟨fb, fs, fo, fl, rv, X, O⟩, B, hz20, hnm, hn, hB, hN, hml, hms, hmd, k⟩ := h
      have hmz : ms.length ≤ 5 := length_le_of_nodup_of_subset ms Tb.METHS hmd hms
      refine ⟨_, rfl, p, _, rfl, dkey X.hp X.k1, an, _, rfl, .inl (SqL.of X.hn), fun lf hlf => ⟨(by decide : 0 ≤ sizeLine), fun bl hbl => ⟨_, _, rfl, ?_⟩⟩⟩
      have e1 := Le.new (o := .lst (vS U.names)) hlf
      have e2 := Le.new (o := .lst []) hbl
      have flf : FreB H lf := (Fre.of hlf).b
      have fbl : FreB H bl := (e1.fr0 hbl).b
      have nlb : bl ≠ lf := fun z => by rw [z, upd_same] at hbl; cases hbl
      have hlf2 : (upd (upd H lf (.lst (vS U.names))) bl (.lst [])) lf = some (.lst (vS U.names)) := e2.at upd_same
      have hbl2 : (upd (upd H lf (.lst (vS U.names))) bl (.lst [])) bl = some (.lst (vS [])) := upd_same
      have e12 := e1.trans e2
      generalize upd (upd H lf (.lst (vS U.names))) bl (.lst []) = H2 at e12 hlf2 hbl2
      have B2 := hB.mono e12
      refine ⟨_, rfl, (by decide : 6 ≤ sizeLine), fun L hL => ?_⟩
      have e3 := Le.new (o := .lst [.int 0, .int 1, .int 1, .int 2, .int 0, .int 3]) hL
      have B3 := B2.mono e3
      refine pick_k B3 (by omega) upd_same (B3.ne upd_same fun x y c z => by cases z) (by simp) (by decide : 6 ≤ 1000) fun v H4 hv e4 B4 u4 => ?_
      obtain ⟨j, rfl, hj0, hj3⟩ : ∃ j : Int, v = .int j ∧ 0 ≤ j ∧ j ≤ 3 := by
        simp only [List.mem_cons, List.not_mem_nil, or_false] at hv
        rcases hv with z | z | z | z | z | z <;> exact ⟨_, z, by decide, by decide⟩
      have nlfb := B2.ne hlf2 (vS_nb _)
      have nblb := B2.ne hbl2 (vS_nb _)
      have hlf4 := (u4 lf nlfb).trans (e3.at hlf2)
      have hbl4 := (u4 bl nblb).trans (e3.at hbl2)
      have e14 := e12.b.trans (e3.b.trans e4)
      refine ⟨_, rfl, lf, _, rfl, .inl (SqL.of hlf4), j, _, rfl, _, rfl, ?_, ?_, ?_⟩
      · split <;> omega
      · split
        · rw [vS_len]; have := B.ok.sz; omega
        · omega
      generalize ht : (if ((vS U.names).length : Int) < j then ((vS U.names).length : Int) else j) = t
      have ht2 : t ≤ 3 ∧ 0 ≤ t ∧ t ≤ U.names.length := by
        rw [vS_len] at ht
        split at ht <;> omega
      have hnz := B.ok.sz
      refine for_it (walk_range (lo := 0) (n := t.toNat)) (fun i σ Hc => ∃ v6 v7 v8 left bases, σ = [some (.ref b), some (.ref p), some (.str n), some (.ref ml), some (.ref lf), some (.ref bl), v6, v7, v8] ∧ LeB H Hc ∧ BagAt Hc b (N + 1 + i) ∧ Hc lf = some (.lst (vS left)) ∧ Hc bl = some (.lst (vS bases)) ∧ (left ++ bases).Perm U.names ∧ bases.length = i) ⟨none, none, none, U.names, [], rfl, e14, B4, hlf4, hbl4, by rw [List.append_nil], rfl⟩ (fun i σ H' _ _ => trivial) ?_ ?_
      · rintro i x σ Ha Hb hi ⟨v6, v7, v8, left, bases, rfl, e, Bc, hlc, hbc, hpm, hbln⟩ ⟨rfl, rfl⟩
        have hll := hpm.length_eq
        rw [List.length_append] at hll
        refine ⟨_, rfl, .inl ⟨rfl, _, SqL.of hbc⟩, _, rfl, .inl ⟨rfl, _, SqL.of hlc⟩, _, rfl, _, rfl, lf, _, rfl, .inl (SqL.of hlc), take_k Bc (by omega) (by rw [vS_len]; omega) (by rw [vS_len]; omega) fun r H5 h50 h51 e5 B5 u5 => ?_⟩
        have hl5 := (u5 lf (Bc.ne hlc (vS_nb _))).trans hlc
        have hb5 := (u5 bl (Bc.ne hbc (vS_nb _))).trans hbc
        rw [vS_len] at h51
        have hrl : r.toNat < left.length := by omega
        have hy : left[r.toNat]? = some left[r.toNat] := List.getElem?_eq_getElem hrl
        generalize left[r.toNat] = y at hy
        refine ⟨lf, _, r, r.toNat, .str y, rfl, rfl, hl5, by omega, by omega, by rw [vS_len, seqIndex_of h50 (by omega)], by unfold vS; rw [List.getElem?_map, hy]; rfl, ?_⟩
        rw [vS_erase]
        have E6 := (e.trans e5).mutF (o := .lst (vS (left.eraseIdx r.toNat))) flf hl5 rfl
        have B6 := B5.upd (p := lf) (o := .lst (vS (left.eraseIdx r.toNat))) nlfb
        have hb6 : (upd H5 lf (.lst (vS (left.eraseIdx r.toNat)))) bl = _ := (upd_ne nlb).trans hb5
        have hl6 : (upd H5 lf (.lst (vS (left.eraseIdx r.toNat)))) lf = some (.lst (vS (left.eraseIdx r.toNat))) := upd_same
        generalize upd H5 lf (.lst (vS (left.eraseIdx r.toNat))) = H6 at E6 B6 hb6 hl6
        refine ⟨bl, _, _, rfl, rfl, hb6, sz5' (by rw [vS_len]; omega), _, _, _, left.eraseIdx r.toNat, bases ++ [y], rfl, E6.mutF fbl hb6 rfl, B6.upd nblb, (upd_ne nlb.symm).trans hl6, by rw [upd_same, vS_app]; rfl, ?_, by rw [List.length_append, hbln]; rfl⟩
        rw [← List.append_assoc]
        refine List.Perm.trans ?_ hpm
        refine List.Perm.trans List.perm_append_comm ?_
        show (y :: (left.eraseIdx r.toNat ++ bases)).Perm _
        exact List.Perm.append_right bases (erase_perm hy)
      rintro σ H6 ⟨v6, v7, v8, left, bases, rfl, e6, B6, hl6, hb6, hpm, hbln⟩
      have hpnd : (left ++ bases).Nodup := hpm.nodup_iff.mpr B.ok.nd
      have hbnd : bases.Nodup := (List.nodup_append.mp hpnd).2.1
      have hbin : ∀ x ∈ bases, x ∈ U.names := fun x hx => hpm.subset (List.mem_append_right _ hx)
      refine fun sg hsg => ?_
      show gName 7 _ _ _ _
      have e7 := Le.new (o := .dK []) hsg
      have fsg : FreB H sg := e6.fre (Fre.of hsg).b
      have hml7 := (e6.trans e7.b).at hml (keep_vS _)
      refine ⟨_, rfl, ml, rfl, ⟨_, SqL.of hml7⟩, ?_⟩
      refine for_it (ws_list (K := K) (a := ml) (l := ms)) (fun i σ Hc => ∃ v6 v8 acc, σ = [some (.ref b), some (.ref p), some (.str n), some (.ref ml), some (.ref lf), some (.ref bl), v6, some (.ref sg), v8] ∧ LeB H Hc ∧ BagAt Hc b (N + 5 + 2 * i) ∧ Hc bl = some (.lst (vS bases)) ∧ Hc sg = some (.dK (kvM acc)) ∧ (acc.map (·.1)).Sublist (ms.take i) ∧ ∀ q ∈ acc, q.2 ∈ Tb.MRKS) ⟨_, _, [], rfl, e6.trans e7.b, (B6.mono e7).lt (by omega), e7.at hb6, upd_same, List.nil_sublist _, fun q hq => (by cases hq)⟩ (fun i σ Hc _ ⟨v6, v8, acc, _, q, _⟩ => SqL.of (q.at hml (keep_vS _))) ?_ ?_
      · rintro i x σ Ha Hb hi ⟨v6, v8, acc, rfl, e, Bc, hbc, hsc, hsub, hmk⟩ ⟨rfl, z, hz, rfl⟩
        have nsgb := Bc.ne hsc (fun x y c w => by cases w)
        refine ⟨_, rfl, take_k Bc (by omega) (by decide) (by decide) fun r H8 h80 h81 e8 B8 u8 => ⟨rfl, _, rfl, ?_⟩⟩
        have hs8 := (u8 sg nsgb).trans hsc
        have hb8 := (u8 bl nblb).trans hbc
        cases decide (V.int r = V.int 0) with
        | false =>
          refine iteF ⟨_, _, acc, rfl, e.trans e8, B8.lt (by omega), hb8, hs8, ?_, hmk⟩
          rw [take_snoc hz]
          exact hsub.trans (List.sublist_append_left _ _)
        | true =>
          refine iteT ⟨_, rfl, (by decide : 3 ≤ sizeLine), fun L2 hL2 => ?_⟩
          have e9 := Le.new (o := .lst [.str "plain", .str "abstract", .str "blocked"]) hL2
          refine pick_k (B8.mono e9) (by omega) upd_same ((B8.mono e9).ne upd_same fun x y c w => by cases w) (by simp) (by decide : 3 ≤ 1000) fun v H10 hv e10 B10 u10 => ?_
          obtain ⟨mk, rfl, hmkin⟩ : ∃ mk, v = .str mk ∧ mk ∈ Tb.MRKS := by
            simp only [List.mem_cons, List.not_mem_nil, or_false] at hv
            rcases hv with w | w | w
            · exact ⟨_, w, by decide⟩
            · exact ⟨_, w, by decide⟩
            · exact ⟨_, w, by decide⟩
          have hs10 := (u10 sg nsgb).trans (e9.at hs8)
          have hb10 := (u10 bl nblb).trans (e9.at hb8)
          have hzn : z ∉ acc.map (·.1) := fun hm => take_no hmd hz (hsub.subset hm)
          have hal := hsub.length_le
          rw [List.length_map, List.length_take] at hal
          refine ⟨_, rfl, _, rfl, sg, _, rfl, .inl ⟨_, Sum.inr z, hs10, rfl, sz5' (by unfold kvM; rw [List.length_map]; omega), rfl⟩, ?_⟩
          rw [kvM_put hzn]
          refine ⟨_, _, acc ++ [(z, mk)], rfl, ((e.trans e8).trans (e9.b.trans e10)).mutF fsg hs10 rfl, (B10.upd nsgb).lt (by omega), (upd_ne (fun w => by rw [w, hs10] at hb10; cases hb10)).trans hb10, upd_same, ?_, fun q hq => ?_⟩
          · rw [take_snoc hz, List.map_append]
            exact hsub.append (List.Sublist.refl _)
          · rcases List.mem_append.mp hq with w | w
            · exact hmk q w
            · rw [List.mem_singleton.mp w]; exact hmkin
      rintro σ H8 ⟨v6', v8', acc, rfl, e8, B8, hb8, hs8, hsub, hmk⟩
      rw [List.take_length] at hsub
      refine ⟨_, rfl, _, rfl, _, rfl, _, rfl, take_k B8 (by omega) (by decide) (by decide) fun r H9 h90 h91 e9 B9 u9 => ⟨rfl, _, rfl, _, rfl, _, rfl, ?_⟩⟩
      generalize decide (V.int r = V.int 0) = own
      have hb9 := (u9 bl nblb).trans hb8
      have hs9 := (u9 sg (B8.ne hs8 (fun x y c w => by cases w))).trans hs8
      have E9 := e8.trans e9
      refine ⟨b, _, ml, ms, rfl, B9, by omega, E9.at hml (keep_vS _), hms, hmd, fun v H10 h ps e10 B10 RA hhk => ?_⟩
      have E10 := E9.trans e10
      have X10 := X.monoB E10
      have hbx : ∀ x ∈ [an, ab, ao, as, ar, ad, al], x ≠ b := fun x hx w => by
        obtain ⟨q1, q2, q3, hbo, _⟩ := B10
        simp only [List.mem_cons, List.not_mem_nil, or_false] at hx
        rcases hx with z | z | z | z | z | z | z <;> rw [z] at w
        · have := X10.hn; rw [w, hbo] at this; exact vS_nb _ _ _ _ (Option.some.inj this).symm
        · have := X10.hb; rw [w, hbo] at this; cases this
        · have := X10.ho; rw [w, hbo] at this; cases this
        · have := X10.hs; rw [w, hbo] at this; cases this
        · have := X10.hr; rw [w, hbo] at this; cases this
        · have := X10.hd; rw [w, hbo] at this; cases this
        · have := X10.hl; rw [w, hbo] at this; cases this
      refine ⟨p, n, bl, own, sg, v, H0, U, kvs, an, ab, ao, as, ar, ad, al, fb, fs, fo, fl, rv, bases, acc, h, ps, rfl, e0.trans E10, X10, O, B, hz20, hnm, hn, e10.at hb9 (keep_vS _), fun w => fbl _ rfl (by rw [w]; exact X.hn), hbin, hbnd, by omega, e10.at hs9, ?_, fun q hq => ⟨hms _ (hsub.subset (List.mem_map.mpr ⟨q, hq, rfl⟩)), hmk q hq⟩, hmd.sublist hsub, RA, hhk, fun c H11 hNC e11 PE kp => ?_⟩
      · have fx : ∀ {y : Addr} {u : List (Key × V)}, H y = some (.dK u) → sg ≠ y := fun hy w => fsg _ rfl (by rw [w]; exact hy)
        simp only [List.mem_cons, List.not_mem_nil, or_false, not_or]
        exact ⟨fx X.hb, fx X.ho, fx X.hs, fx X.hr, fx X.hd, fx X.hl⟩
      obtain ⟨q1, q2, q3, hbo, hbi⟩ := B10
      refine k c H11 hNC e11 PE ?_ fun x u h1 h2 h3 => kp x u h1 (E10.at h2 h3) (keep_plain h3)
      exact BagAt.lt ⟨q1, q2, q3, kp b _ (fun w => hbx b w rfl) hbo rfl, hbi⟩ (by omega)
  exact ⟨⟨_, fd, G, T.g_Lclass, F.kp, F.bindsN (ps := ["_law_bag_here", "_law_plain", "_law_name", "_law_methods"]) fun _ _ _ _ _ _ us hl => match us, hl with | [_, _, _, _], _ => rfl⟩⟩

end
end Sw
set_option linter.all false
set_option maxRecDepth 100000
set_option maxHeartbeats 4000000
/-! SwF34: registrations are drawn. Terms printed by gen_term.py. -/
namespace Sw
open PySem PySem.Spec PyProof.Rows L2 LamX
section
variable {P : Program} {w : World} {K : PySem.W.Frag} {mg : Str → Option Value} {base : Heap}


/-- one class's registrations are written anew -/
theorem pln_set {H0 H : Hp} {p : Addr} {U U' : Tb} {kvs : List (Key × V)} {an ab ao as ar ad al : Addr} {fb fs fo fl : Str → Addr} {rv : Str → V} {a : Str} {l' : List Str}
    (X : PlnX H p U kvs an ab ao as ar ad al fb fs fo fl rv) (O : PlnO H0 p U an ab ao as ar ad al fb fs fo fl) (ha : a ∈ U.names) (e1 : U'.names = U.names) (e2 : U'.cl = U.cl) (e3 : ∀ n ∈ U.names, U'.ls n = if n = a then l' else U.ls n) :
    PlnX (upd H (fl a) (.lst (vS l'))) p U' kvs an ab ao as ar ad al fb fs fo fl rv ∧ PlnO H0 p U' an ab ao as ar ad al fb fs fo fl := by
  have hla := X.vl a ha
  have nd : ∀ {x : Addr} {kv : List (Key × V)}, H x = some (.dK kv) → upd H (fl a) (.lst (vS l')) x = some (.dK kv) := fun h => by
    rw [upd_ne (fun z => by rw [z, hla] at h; cases h)]; exact h
  have KI : KeepI H (upd H (fl a) (.lst (vS l'))) := KeepI.upd hla rfl
  constructor
  · refine ⟨nd X.hp, X.k1, X.k2, X.k3, X.k4, X.k5, X.k6, X.k7, ?_, ?_, ?_, ?_, ?_, ?_, ?_, fun n hn => ?_, fun n hn => ?_, fun n hn => ?_, fun n hn => ?_, fun n hn => ?_⟩
    · rw [e1, upd_ne (O.sla a ha).symm]; exact X.hn
    · rw [e1]; exact nd X.hb
    · rw [e1, e2]; exact nd X.ho
    · rw [e1]; exact nd X.hs
    · rw [e1]; exact nd X.hr
    · rw [e1]; exact nd X.hd
    · rw [e1]; exact nd X.hl
    · rw [e1] at hn; rw [e2, upd_ne (O.slb a ha n hn).symm]; exact X.vb n hn
    · rw [e1] at hn; rw [e2]; exact nd (X.vs n hn)
    · rw [e1] at hn; rw [e2]; exact (X.vr n hn).keep KI
    · rw [e1] at hn; rw [e2, upd_ne (O.slo a ha n hn).symm]; exact X.vo n hn
    · rw [e1] at hn
      rw [e3 n hn]
      by_cases z : n = a
      · rw [if_pos z, z]; exact upd_same
      · rw [if_neg z, upd_ne (fun w => z (O.sfl n hn a ha w))]; exact X.vl n hn
  · exact ⟨O.fp, O.fan, O.fab, O.fao, O.fas, O.far, O.fad, O.fal, fun n hn => O.ffl n (by rw [← e1]; exact hn), O.dst, fun n hn => O.sfs n (by rw [← e1]; exact hn), fun n hn m hm => O.sfl n (by rw [← e1]; exact hn) m (by rw [← e1]; exact hm), fun n hn m hm => O.slb n (by rw [← e1]; exact hn) m (by rw [← e1]; exact hm), fun n hn m hm => O.slo n (by rw [← e1]; exact hn) m (by rw [← e1]; exact hm), fun n hn => O.sla n (by rw [← e1]; exact hn), fun n hn => O.sba n (by rw [← e1]; exact hn), fun n hn => O.soa n (by rw [← e1]; exact hn)⟩
def spLSome : Sp := fun vs H Q _ => ∃ b p t H0 U N, vs = [.ref b, .ref p, .int t] ∧ 0 ≤ t ∧ t ≤ 10 ∧ LeB H0 H ∧ PlnF H0 H p U ∧ Drawn U ∧ U.names ≠ [] ∧ BagAt H b N ∧ N ≤ 900000 ∧ ∀ U' H', Drawn U' → U'.names = U.names → LeB H0 H' → PlnF H0 H' p U' → BagAt H' b (N + 20) → Q .non H'

theorem sc_Lsome_admitted : FnScope ["_law_bag_here", "_law_plain", "_law_turns", "_law_turn", "_law_name", "_law_other"] ["_law_bag_here", "_law_plain", "_law_turns"] (defScope s_Lsome_admitted) := ⟨rfl, rfl, rfl, by decide +kernel, rfl, by decide +kernel, by decide +kernel⟩
theorem ok_Lsome_admitted (T : Tx K mg) (c_Lpick : Cal P w K mg base "_law_pick" 2 ["_law_bag_here", "_law_some"] (spLPickI K)) (c_Ladmits : Cal P w K mg base "_law_admits" 4 ["_law_plain", "_law_name", "_law_other"] spLAdmits) (c_Ladmit : Cal P w K mg base "_law_admit" 1 ["_law_plain", "_law_name", "_law_other"] spLAdmit) : Cal P w K mg base "_law_some_admitted" 5 ["_law_bag_here", "_law_plain", "_law_turns"] spLSome := by
  obtain ⟨fd, F⟩ := T.fn _ fi_Lsome_admitted
  have G : FnOk P w K mg base CX0 5 d_Lsome_admitted.f fd ["_law_bag_here", "_law_plain", "_law_turns"] spLSome := by
    refine F.ok sc_Lsome_admitted (fun vs H Q E h => ?_) (fun cdv A outer s H vs Q E hr h => ⟨_, PSs.nox (X := cxOf CX0 P w K mg base _ _ _ _ cdv A outer s H E) ((pss_one (ps_for PassesOwn.never rfl (pi_range1 (by rfl) T.f_range (pa_cons (pv 2) pa_nil)) (pg_name (i := 3) sc_Lsome_admitted.nd rfl (Or.inl rfl)) (pss_cons (ps_par (i := 4) (j := 5) rfl sc_Lsome_admitted.nd rfl rfl (by decide) rfl rfl (pa_cons (pc c_Lpick (hr.mono (by decide : 2 ≤ _)) rfl (pa_cons (pv 0) (pa_cons (pe_dget (hu_of hr) (pv 1) pe_str (fun _ _ => rfl)) pa_nil))) (pa_cons (pc c_Lpick (hr.mono (by decide : 2 ≤ _)) rfl (pa_cons (pv 0) (pa_cons (pe_dget (hu_of hr) (pv 1) pe_str (fun _ _ => rfl)) pa_nil))) pa_nil)) (by rfl))
    (pss_one (ps_if (pt_val (pc c_Ladmits hr rfl (pa_cons (pv 1) (pa_cons (pv 4) (pa_cons (pv 5) pa_nil))))) (pss_one (ps_expr (pc c_Ladmit (hr.mono (by decide : 1 ≤ _)) rfl (pa_cons (pv 1) (pa_cons (pv 4) (pa_cons (pv 5) pa_nil)))))) pss_nil)))))), ?_⟩)
    · obtain ⟨_, _, _, _, _, _, rfl, _⟩ := h
      rfl
    · obtain ⟨b, p, t, H0, U, N, rfl, ht0, ht1, e0, PF, D, hne, hB, hN, k⟩ := h
      refine ⟨_, rfl, t, rfl, by omega, by omega, ?_⟩
      refine for_it (walk_range (lo := 0) (n := t.toNat)) (fun i σ Hc => ∃ v3 v4 v5 Uc, σ = [some (.ref b), some (.ref p), some (.int t), v3, v4, v5] ∧ LeB H0 Hc ∧ PlnF H0 Hc p Uc ∧ Drawn Uc ∧ Uc.names = U.names ∧ BagAt Hc b (N + 2 * i)) ⟨none, none, none, U, rfl, e0, PF, D, rfl, hB⟩ (fun i σ H' _ _ => trivial) ?_ ?_
      · rintro i x σ Ha Hb hi ⟨v3, v4, v5, Uc, rfl, e, PFc, Dc, hnm, Bc⟩ ⟨rfl, rfl⟩
        obtain ⟨kvs, an, ab, ao, as, ar, ad, al, fb, fs, fo, fl, rv, X, O⟩ := PFc.ex
        have hnz := Dc.b.ok.sz
        have hne' : vS Uc.names ≠ [] := fun z => by
          have : Uc.names = [] := List.map_eq_nil_iff.mp z
          exact hne (by rw [← hnm]; exact this)
        have hnb := Bc.ne X.hn (vS_nb _)
        have inV : ∀ v, v ∈ vS Uc.names → ∃ a, v = .str a ∧ a ∈ Uc.names := fun v hv => by
          obtain ⟨a, h1, h2⟩ := List.mem_map.mp hv
          exact ⟨a, h2.symm, h1⟩
        refine ⟨_, rfl, _, rfl, p, _, rfl, dkey X.hp X.k1, pick_k Bc (by omega) X.hn hnb hne' (by rw [vS_len]; omega) fun v1 H1 hv1 e1 B1 u1 => ?_⟩
        obtain ⟨a, rfl, ha⟩ := inV v1 hv1
        have X1 := X.monoB e1
        refine ⟨_, rfl, _, rfl, p, _, rfl, dkey X1.hp X1.k1, pick_k B1 (by omega) X1.hn hnb hne' (by rw [vS_len]; omega) fun v2 H2 hv2 e2 B2 u2 => ?_⟩
        obtain ⟨c, rfl, hc⟩ := inV v2 hv2
        have X2 := X1.monoB e2
        refine ⟨_, _, rfl, ?_⟩
        refine ⟨_, rfl, _, rfl, _, rfl, p, Uc, a, c, rfl, ⟨_, _, _, _, _, _, _, _, _, _, _, _, _, X2⟩, Dc.b.ok, ha, hc, fun bb H3 e3 hbb => ⟨_, rfl, ?_⟩⟩
        have X3 := X2.monoB e3.b
        have E3 := (e.trans e1).trans (e2.trans e3.b)
        have B3 := B2.mono e3
        cases bb with
        | false => exact iteF ⟨_, _, _, Uc, rfl, E3, ⟨_, _, _, _, _, _, _, _, _, _, _, _, _, X3, O⟩, Dc, hnm, B3.lt (by omega)⟩
        | true =>
          obtain ⟨hs, hno⟩ := hbb.mp rfl
          have D' := Dc.reg ha hc hs hno
          refine iteT ⟨_, rfl, _, rfl, _, rfl, p, a, c, kvs, al, fl, Uc, rfl, X3.hp, X3.k7, X3.hl, ha, X3.vl a ha, by have := Dc.b.ok.rsz a ha; omega, fun hin => ?_, fun hnin => ?_⟩
          · refine ⟨_, _, _, Uc, rfl, E3, ⟨_, _, _, _, _, _, _, _, _, _, _, _, _, X3, O⟩, Dc, hnm, B3.lt (by omega)⟩
          · have hbl : fl a ≠ b := B3.ne (X3.vl a ha) (vS_nb _)
            have hset := pln_set (U' := Uc.reg1 a c) (l' := Uc.ls a ++ [c]) X3 O ha rfl rfl fun n _ => by
              show (if n = a then (if (Uc.ls n).contains c = true then Uc.ls n else Uc.ls n ++ [c]) else Uc.ls n) = _
              by_cases z : n = a
              · rw [if_pos z, if_pos z, z, if_neg (fun w => hnin (List.contains_iff_mem.mp w))]
              · rw [if_neg z, if_neg z]
            exact ⟨_, _, _, Uc.reg1 a c, rfl, E3.mutF (O.ffl a ha) (X3.vl a ha) rfl, ⟨_, _, _, _, _, _, _, _, _, _, _, _, _, hset.1, hset.2⟩, D', hnm, (B3.upd hbl).lt (by omega)⟩
      · rintro σ Hc ⟨v3, v4, v5, Uc, rfl, e, PFc, Dc, hnm, Bc⟩
        exact k Uc Hc Dc hnm e PFc (Bc.lt (by omega))
  exact ⟨⟨_, fd, G, T.g_Lsome_admitted, F.kp, F.bindsN (ps := ["_law_bag_here", "_law_plain", "_law_turns"]) fun _ _ _ _ _ _ us hl => match us, hl with | [_, _, _], _ => rfl⟩⟩

end
end Sw
set_option linter.all false
set_option maxRecDepth 100000
set_option maxHeartbeats 4000000
/-! SwF35: a world is drawn. Terms printed by gen_term.py. -/
namespace Sw
open PySem PySem.Spec PyProof.Rows L2 LamX
section
variable {P : Program} {w : World} {K : PySem.W.Frag} {mg : Str → Option Value} {base : Heap}


def spLDrawn : Sp := fun vs H Q _ => ∃ b N, vs = [.ref b, .int 7] ∧ BagAt H b N ∧ N ≤ 700000 ∧ ∀ p U H', LeB H H' → Drawn U → PlnF H H' p U → BagAt H' b (N + 800) → Q (.ref p) H'
theorem Bare.empty : Bare emptyT :=
  ⟨⟨List.nodup_nil, Nat.zero_le _, fun n hn => (by cases hn), fun n hn => (by cases hn), fun n hn => (by cases hn), fun n hn => (by cases hn), fun n hn => (by cases hn), fun n hn => (by cases hn), fun n hn => (by cases hn), fun n hn => (by cases hn), fun n hn => (by cases hn), fun n hn => (by cases hn), fun n hn => (by cases hn), fun n hn => (by cases hn)⟩, fun i n h => by cases h⟩

theorem sc_Ldrawn : FnScope ["_law_bag_here", "_law_most", "_law_plain", "_law_methods", "_law_names", "_law_name"] ["_law_bag_here", "_law_most"] (defScope s_Ldrawn) := ⟨rfl, rfl, rfl, by decide +kernel, rfl, by decide +kernel, by decide +kernel⟩
theorem ok_Ldrawn (T : Tx K mg) (c_Ltake : Cal P w K mg base "_law_take" 1 ["_law_bag_here", "_law_many"] spLTakeI) (c_Lpick : Cal P w K mg base "_law_pick" 2 ["_law_bag_here", "_law_some"] (spLPickI K)) (c_Lnew : Cal P w K mg base "_law_new" 1 [] spLNew) (c_Lclass : Cal P w K mg base "_law_class" 4 ["_law_bag_here", "_law_plain", "_law_name", "_law_methods"] spLClass) (c_Lsome_admitted : Cal P w K mg base "_law_some_admitted" 5 ["_law_bag_here", "_law_plain", "_law_turns"] spLSome) : Cal P w K mg base "_law_drawn" 6 ["_law_bag_here", "_law_most"] spLDrawn := by
  obtain ⟨fd, F⟩ := T.fn _ fi_Ldrawn
  have G : FnOk P w K mg base CX0 6 d_Ldrawn.f fd ["_law_bag_here", "_law_most"] spLDrawn := by
    refine F.ok sc_Ldrawn (fun vs H Q E h => ?_) (fun cdv A outer s H vs Q E hr h => ⟨_, PSs.nox (X := cxOf CX0 P w K mg base _ _ _ _ cdv A outer s H E) ((pss_cons (ps_set (i := 2) sc_Ldrawn.nd rfl (Or.inl rfl) (pc0 c_Lnew (hr.mono (by decide : 1 ≤ _)) rfl))
    (pss_cons (ps_set (i := 3) sc_Ldrawn.nd rfl (Or.inl rfl) (pe_slice (wsll K) (pe_lst (pa_cons pe_str (pa_cons pe_str (pa_cons pe_str (pa_cons pe_str (pa_cons pe_str pa_nil)))))) po_none (po_some (pc c_Lpick (hr.mono (by decide : 2 ≤ _)) rfl (pa_cons (pv 0) (pa_cons (pe_lst (pa_cons pe_int (pa_cons pe_int (pa_cons pe_int (pa_cons pe_int (pa_cons pe_int (pa_cons pe_int pa_nil))))))) pa_nil))))))
    (pss_cons (ps_set (i := 4) sc_Ldrawn.nd rfl (Or.inl rfl) (pc c_Lpick (hr.mono (by decide : 2 ≤ _)) rfl (pa_cons (pv 0) (pa_cons (pe_lst (pa_cons (pe_lst (pa_cons pe_str (pa_cons pe_str (pa_cons pe_str (pa_cons pe_str (pa_cons pe_str (pa_cons pe_str (pa_cons pe_str (pa_cons pe_str pa_nil))))))))) (pa_cons (pe_lst (pa_cons pe_str (pa_cons pe_str (pa_cons pe_str (pa_cons pe_str (pa_cons pe_str (pa_cons pe_str (pa_cons pe_str (pa_cons pe_str pa_nil))))))))) pa_nil))) pa_nil))))
    (pss_cons (ps_for PassesOwn.never rfl (wlist K (pe_slice (wsll K) (pv 4) po_none (po_some (pe_op op_add pe_int (pc c_Ltake (hr.mono (by decide : 1 ≤ _)) rfl (pa_cons (pv 0) (pa_cons (pe_op op_sub (pv 1) pe_int) pa_nil))))))) (pg_name (i := 5) sc_Ldrawn.nd rfl (Or.inl rfl)) (pss_one (ps_expr (pc c_Lclass (hr.mono (by decide : 4 ≤ _)) rfl (pa_cons (pv 0) (pa_cons (pv 2) (pa_cons (pv 5) (pa_cons (pv 3) pa_nil))))))))
    (pss_cons (ps_expr (pc c_Lsome_admitted hr rfl (pa_cons (pv 0) (pa_cons (pv 2) (pa_cons (pe_callB (call_min2 rfl) (by rfl) T.f_min bb_min (pa_cons (pe_op op_mul pe_int (pe_callB (wlen K) (by rfl) T.f_len bb_len (pa_cons (pe_dget (hu_of hr) (pv 2) pe_str (fun _ _ => rfl)) pa_nil))) (pa_cons pe_int pa_nil))) pa_nil)))))
    (pss_one (ps_ret (pv 2))))))))), ?_⟩)
    · obtain ⟨_, _, rfl, _⟩ := h
      rfl
    · obtain ⟨b, N, rfl, hB, hN, k⟩ := h
      refine ⟨rfl, fun p H1 e1 PF1 => ?_⟩
      obtain ⟨kvs, an, ab, ao, as, ar, ad, al, PE1⟩ := PF1.e
      have B1 := hB.mono e1
      refine ⟨(by decide : 5 ≤ sizeLine), fun m0 hm0 => ?_⟩
      have e2 := Le.new (o := .lst [.str "f", .str "g", .str "h", .str "run", .str "size"]) hm0
      refine ⟨_, rfl, (by decide : 6 ≤ sizeLine), fun L hL => ?_⟩
      have e3 := Le.new (o := .lst [.int 1, .int 2, .int 2, .int 3, .int 0, .int 2]) hL
      have B3 := (B1.mono e2).mono e3
      refine pick_k B3 (by omega) upd_same (B3.ne upd_same fun x y c z => by cases z) (by simp) (by decide : 6 ≤ 1000) fun v H4 hv e4 B4 u4 => ?_
      obtain ⟨j, rfl⟩ : ∃ j : Nat, v = .int (j : Int) := by
        simp only [List.mem_cons, List.not_mem_nil, or_false] at hv
        rcases hv with z | z | z | z | z | z
        · exact ⟨1, z⟩
        · exact ⟨2, z⟩
        · exact ⟨2, z⟩
        · exact ⟨3, z⟩
        · exact ⟨0, z⟩
        · exact ⟨2, z⟩
      have hm04 : H4 m0 = some (.lst (vS Tb.METHS)) := (u4 m0 ((B1.mono e2).ne upd_same (vS_nb Tb.METHS))).trans (e3.at upd_same)
      have E14 : LeB H1 H4 := (e2.b.trans e3.b).trans e4
      refine ⟨(j : Int), rfl, m0, _, rfl, SqL.of hm04, fun ml hml => ?_⟩
      rw [cut_n]
      have hms : ∀ m ∈ Tb.METHS.take j, m ∈ Tb.METHS := fun m hm => List.mem_of_mem_take hm
      have hmd : (Tb.METHS.take j).Nodup := (by decide : Tb.METHS.Nodup).sublist (List.take_sublist ..)
      generalize Tb.METHS.take j = ms at hms hmd
      have e5 := Le.new (o := .lst (vS ms)) hml
      have hml5 : (upd H4 ml (.lst (vS ms))) ml = some (.lst (vS ms)) := upd_same
      have B5 := B4.mono e5
      have E15 : LeB H1 (upd H4 ml (.lst (vS ms))) := E14.trans e5.b
      have fml : FreB H1 ml := E14.fre (Fre.of hml).b
      generalize upd H4 ml (.lst (vS ms)) = H5 at hml5 B5 E15
      show gName 3 _ _ _ _
      refine ⟨_, rfl, (by decide : 8 ≤ sizeLine), fun n1 hn1 => ⟨(by decide : 8 ≤ sizeLine), fun n2 hn2 => ⟨(by decide : 2 ≤ sizeLine), fun n3 hn3 => ?_⟩⟩⟩
      have e6 := Le.new (o := .lst [.str "a", .str "b", .str "c", .str "d", .str "e", .str "g", .str "h", .str "i"]) hn1
      have e7 := Le.new (o := .lst [.str "aa", .str "ab", .str "a", .str "ba", .str "b", .str "sworn", .str "f", .str "z"]) hn2
      have e8 := Le.new (o := .lst [.ref n1, .ref n2]) hn3
      have B8 := ((B5.mono e6).mono e7).mono e8
      refine pick_k B8 (by omega) upd_same (B8.ne upd_same fun x y c z => by cases z) (by simp) (by decide : 2 ≤ 1000) fun v H9 hv e9 B9 u9 => ?_
      obtain ⟨nl, ns, rfl, hnl, hnsub, hnnd, hns8⟩ : ∃ nl ns, v = .ref nl ∧ H9 nl = some (.lst (vS ns)) ∧ (∀ n ∈ ns, n ∈ Tb.NAMES) ∧ ns.Nodup ∧ ns.length = 8 := by
        simp only [List.mem_cons, List.not_mem_nil, or_false] at hv
        rcases hv with z | z
        · have h1 : (upd H5 n1 (.lst [.str "a", .str "b", .str "c", .str "d", .str "e", .str "g", .str "h", .str "i"])) n1 = some (.lst (vS ["a", "b", "c", "d", "e", "g", "h", "i"])) := upd_same
          exact ⟨n1, ["a", "b", "c", "d", "e", "g", "h", "i"], z, (u9 n1 ((B5.mono e6).ne h1 (vS_nb _))).trans (e8.at (e7.at h1)), by decide, by decide, rfl⟩
        · have h1 : (upd (upd H5 n1 (.lst [.str "a", .str "b", .str "c", .str "d", .str "e", .str "g", .str "h", .str "i"])) n2 (.lst [.str "aa", .str "ab", .str "a", .str "ba", .str "b", .str "sworn", .str "f", .str "z"])) n2 = some (.lst (vS ["aa", "ab", "a", "ba", "b", "sworn", "f", "z"])) := upd_same
          exact ⟨n2, ["aa", "ab", "a", "ba", "b", "sworn", "f", "z"], z, (u9 n2 (((B5.mono e6).mono e7).ne h1 (vS_nb _))).trans (e8.at h1), by decide, by decide, rfl⟩
      have E59 : LeB H5 H9 := ((e6.b.trans e7.b).trans e8.b).trans e9
      have E19 := E15.trans E59
      have hml9 := E59.at hml5 (keep_vS _)
      show gName 4 _ _ _ _
      refine ⟨_, rfl, _, rfl, _, rfl, _, _, rfl, rfl, take_k B9 (by omega) (by decide) (by decide) fun r H10 h100 h101 e10 B10 u10 => ⟨_, _, rfl, rfl, _, rfl, nl, _, rfl, SqL.of ((u10 nl (B9.ne hnl (vS_nb _))).trans hnl), fun sl hsl => ?_⟩⟩
      have hr2 : (2 + r : Int) = ((2 + r).toNat : Int) := by omega
      rw [hr2, cut_n]
      have hk2 : 2 ≤ (2 + r).toNat := by omega
      have hnsub2 : ∀ n ∈ ns.take (2 + r).toNat, n ∈ Tb.NAMES := fun n hn => hnsub n (List.mem_of_mem_take hn)
      have hnnd2 := hnnd.sublist (List.take_sublist (2 + r).toNat ns)
      have hl2 : 2 ≤ (ns.take (2 + r).toNat).length ∧ (ns.take (2 + r).toNat).length ≤ 8 := by rw [List.length_take]; omega
      generalize ns.take (2 + r).toNat = nt at hnsub2 hnnd2 hl2
      have e11 := Le.new (o := .lst (vS nt)) hsl
      have hsl11 : (upd H10 sl (.lst (vS nt))) sl = some (.lst (vS nt)) := upd_same
      have B11 := B10.mono e11
      have E111 : LeB H1 (upd H10 sl (.lst (vS nt))) := (E19.trans e10).trans e11.b
      have hml11 := e11.at ((e10.at hml9 (keep_vS _)))
      have fsl : FreB H1 sl := (E19.trans e10).fre (Fre.of hsl).b
      generalize upd H10 sl (.lst (vS nt)) = H11 at hsl11 B11 E111 hml11
      have nb7 : ∀ {x : Addr}, FreB H1 x → x ∉ [an, ab, ao, as, ar, ad, al] := fun {x} fx => by
        obtain ⟨fb, fs, fo, fl, rv, X, O⟩ := PE1.ex
        have q : ∀ {y : Addr} {u : HO}, H1 y = some u → plainO u = true → x ≠ y := fun hy ku w => fx _ ku (by rw [w]; exact hy)
        simp only [List.mem_cons, List.not_mem_nil, or_false, not_or]
        exact ⟨q X.hn rfl, q X.hb rfl, q X.ho rfl, q X.hs rfl, q X.hr rfl, q X.hd rfl, q X.hl rfl⟩
      refine ⟨sl, rfl, ⟨_, SqL.of hsl11⟩, ?_⟩
      refine for_it (ws_list (K := K) (a := sl) (l := nt)) (fun i σ Hc => ∃ v5 Uc, σ = [some (.ref b), some (.int 7), some (.ref p), some (.ref ml), some (.ref nl), v5] ∧ LeB H Hc ∧ PlnE H Hc p Uc kvs an ab ao as ar ad al ∧ Bare Uc ∧ (∀ m, Uc.ls m = []) ∧ Uc.names = nt.take i ∧ BagAt Hc b (N + 3 + 60 * i) ∧ Hc sl = some (.lst (vS nt)) ∧ Hc ml = some (.lst (vS ms))) ⟨none, emptyT, rfl, e1.b.trans E111, PE1.monoB E111, Bare.empty, fun _ => rfl, rfl, B11, hsl11, hml11⟩ (fun i σ Hc _ ⟨v5, Uc, _, _, _, _, _, _, _, q, _⟩ => SqL.of q) ?_ ?_
      · rintro i x σ Ha Hb hi ⟨v5, Uc, rfl, e, PEc, Bc, hls, hnm, Bg, hslc, hmlc⟩ ⟨rfl, z, hz, rfl⟩
        have hzn : z ∉ Uc.names := by rw [hnm]; exact take_no hnnd2 hz
        have hlen : Uc.names.length < 20 := by rw [hnm, List.length_take]; omega
        refine ⟨_, rfl, _, rfl, _, rfl, _, rfl, b, p, z, ml, H, Uc, kvs, an, ab, ao, as, ar, ad, al, _, ms, rfl, e, PEc, Bc, hlen, hnsub2 z (List.mem_of_getElem? hz), hzn, Bg, by omega, hmlc, hms, hmd, fun c H12 hNC e12 PE12 B12 kp => ?_⟩
        refine ⟨_, Uc.add z c, rfl, e12, PE12, Bc.add hNC hlen, fun m => ?_, ?_, B12.lt (by omega), kp sl _ (nb7 fsl) hslc (keep_vS _), kp ml _ (nb7 fml) hmlc (keep_vS _)⟩
        · show (if m = z then [] else Uc.ls m) = []
          split
          · rfl
          · exact hls m
        · show Uc.names ++ [z] = _
          rw [hnm, take_snoc hz]
      rintro σ Hc ⟨v5, Uc, rfl, e, PEc, Bc, hls, hnm, Bg, hslc, hmlc⟩
      rw [List.take_length] at hnm
      obtain ⟨fb, fs, fo, fl, rv, X, O⟩ := id PEc.ex
      have hnz := Bc.ok.sz
      refine ⟨_, rfl, _, rfl, _, rfl, p, _, rfl, dkey X.hp X.k1, an, _, rfl, .inl (SqL.of X.hn), ?_⟩
      refine ⟨_, _, rfl, rfl, .inl ⟨by decide, by decide⟩, _, _, rfl, ?_⟩
      refine ⟨b, p, _, H, Uc, _, rfl, ?_, ?_, e, PEc.f, Bc.drawn (fun n _ => hls n), fun z => ?_, Bg, by omega, fun U' H12 hD hnm' e12 PF12 B12 => ?_⟩
      · split <;> omega
      · split <;> omega
      · rw [hnm] at z
        rw [z] at hl2
        exact absurd hl2.1 (by decide)
      exact ⟨_, rfl, k p U' H12 e12 hD PF12 (B12.lt (by omega))⟩
  exact ⟨⟨_, fd, G, T.g_Ldrawn, F.kp, F.bindsN (ps := ["_law_bag_here", "_law_most"]) fun _ _ _ _ _ _ us hl => match us, hl with | [_, _], _ => rfl⟩⟩

end
end Sw
set_option linter.all false
set_option maxRecDepth 100000
set_option maxHeartbeats 4000000
/-! SwF36: a class of the plain world is made in a world. Terms printed by gen_term.py. -/
namespace Sw
open PySem PySem.Spec PyProof.Rows L2 LamX
section
variable {P : Program} {w : World} {K : PySem.W.Frag} {mg : Str → Option Value} {base : Heap}


def spLMadeIn : Sp := fun vs H Q _ => ∃ w p n H0 V U, vs = [.ref w, .ref p, .str n] ∧ Le H0 H ∧ WldF H0 H w V ∧ V.Ok ∧ PlnAt H0 p U ∧ U.Ok ∧ n ∈ U.names ∧ NewCl V n (U.cl n) ∧ ∀ H', Le H0 H' → WldF H0 H' w (V.add n (U.cl n)) → Q .non H'
theorem le_ext {H H' : Hp} (e : ∀ b o, H b = some o → H' b = some o) : Le H H' := ⟨fun b o h _ => e b o h, fun t => t.ext e⟩
theorem regs_of {H : Hp} : ∀ {ms : List (Str × Str)} {ts : List Addr}, Paired (fun (t : Addr) (q : Key × V) => H t = some (.tup [kV q.1, q.2])) ts (kvM ms) → Paired (fun p v => PairAt H v p) ms (ts.map V.ref)
  | [], _, h => by cases h; exact .nil
  | m :: ms, ts, h => by
    have h' : Paired (fun (t : Addr) (q : Key × V) => H t = some (.tup [kV q.1, q.2])) ts ((Sum.inr m.1, V.str m.2) :: kvM ms) := h
    cases h' with
    | cons a t => exact .cons ⟨_, rfl, a⟩ (regs_of t)

theorem sc_Lmade_in : FnScope ["_law_world", "_law_plain", "_law_name", "_law_oath", "_law_signs", "_law_told", "_law_rule", "_law_goes_down", "_law_some"] ["_law_world", "_law_plain", "_law_name"] (defScope s_Lmade_in) := ⟨rfl, rfl, rfl, by decide +kernel, rfl, by decide +kernel, by decide +kernel⟩
theorem ok_Lmade_in (T : Tx K mg) (c_World_make : CalMK P w K mg base cWorld "make" 7 ["sworn", "marks", "hook", "passed"] (kwSp spMake)) : Cal P w K mg base "_law_made_in" 8 ["_law_world", "_law_plain", "_law_name"] spLMadeIn := by
  obtain ⟨fd, F⟩ := T.fn _ fi_Lmade_in
  have G : FnOk P w K mg base CX0 8 d_Lmade_in.f fd ["_law_world", "_law_plain", "_law_name"] spLMadeIn := by
    refine F.ok sc_Lmade_in (fun vs H Q E h => ?_) (fun cdv A outer s H vs Q E hr h => ⟨_, PSs.nox (X := cxOf CX0 P w K mg base _ _ _ _ cdv A outer s H E) ((pss_cons (ps_par (i := 3) (j := 4) rfl sc_Lmade_in.nd rfl rfl (by decide) rfl rfl (pa_cons (pe_dget (hu_of hr) (pe_dget (hu_of hr) (pv 1) pe_str (fun _ _ => rfl)) (pv 2) (fun _ _ => rfl)) (pa_cons (LiI.pe_listItems rfl (pe_dget (hu_of hr) (pe_dget (hu_of hr) (pv 1) pe_str (fun _ _ => rfl)) (pv 2) (fun _ _ => rfl)) (by rfl) T.f_list bb_list) pa_nil)) (by rfl))
    (pss_cons (ps_set (i := 5) sc_Lmade_in.nd rfl (Or.inl rfl) (pe_dget (hu_of hr) (pe_dget (hu_of hr) (pv 1) pe_str (fun _ _ => rfl)) (pv 2) (fun _ _ => rfl)))
    (pss_cons (ps_asg (pe_ifExp (pt_cmpR op_notN (pv 5) pe_non (nomark _)) (pv 5) (pe_tup (pa_cons pe_non (pa_cons pe_bl pa_nil)))) (wtup (n := 2) K rfl (pgs_cons (pg_name (i := 6) sc_Lmade_in.nd rfl (Or.inl rfl)) (pgs_cons (pg_name (i := 7) sc_Lmade_in.nd rfl (Or.inl rfl)) pgs_nil))))
    (pss_cons (ps_set (i := 8) sc_Lmade_in.nd rfl (Or.inl rfl) (pe_dget (hu_of hr) (pe_dget (hu_of hr) (pv 1) pe_str (fun _ _ => rfl)) (pv 2) (fun _ _ => rfl)))
    (pss_one (ps_if (pt_cmpR (weq K hr.units) (pv 8) (pe_lst pa_nil) (nomark _)) (pss_one (ps_expr (pmK c_World_make hr (pv 0) (pa_cons (pv 2) pa_nil) (pk_cons (pv 3) (pk_cons (pv 4) (pk_cons (pv 6) (pk_cons (pv 7) pk_nil))))))) (pss_one (ps_if (pt_cmpR op_eq (pe_callB (wlen K) (by rfl) T.f_len bb_len (pa_cons (pv 8) pa_nil)) pe_int (nomark _)) (pss_one (ps_expr (pmK c_World_make hr (pv 0) (pa_cons (pv 2) (pa_cons (pe_ix (wixl K) (pv 8) pe_int (fun _ _ => rfl)) pa_nil)) (pk_cons (pv 3) (pk_cons (pv 4) (pk_cons (pv 6) (pk_cons (pv 7) pk_nil))))))) (pss_one (ps_if (pt_cmpR op_eq (pe_callB (wlen K) (by rfl) T.f_len bb_len (pa_cons (pv 8) pa_nil)) pe_int (nomark _)) (pss_one (ps_expr (pmK c_World_make hr (pv 0) (pa_cons (pv 2) (pa_cons (pe_ix (wixl K) (pv 8) pe_int (fun _ _ => rfl)) (pa_cons (pe_ix (wixl K) (pv 8) pe_int (fun _ _ => rfl)) pa_nil))) (pk_cons (pv 3) (pk_cons (pv 4) (pk_cons (pv 6) (pk_cons (pv 7) pk_nil))))))) (pss_one (ps_expr (pmK c_World_make hr (pv 0) (pa_cons (pv 2) (pa_cons (pe_ix (wixl K) (pv 8) pe_int (fun _ _ => rfl)) (pa_cons (pe_ix (wixl K) (pv 8) pe_int (fun _ _ => rfl)) (pa_cons (pe_ix (wixl K) (pv 8) pe_int (fun _ _ => rfl)) pa_nil)))) (pk_cons (pv 3) (pk_cons (pv 4) (pk_cons (pv 6) (pk_cons (pv 7) pk_nil)))))))))))))))))), ?_⟩)
    · obtain ⟨_, _, _, _, _, _, rfl, _⟩ := h
      rfl
    · obtain ⟨w, p, n, H0, Y, U, rfl, e0, W, okV, ⟨kvs, an, ab, ao, as, ar, ad, al, fb, fs, fo, fl, rv, X⟩, okU, hn, N, k⟩ := h
      have X1 := X.monoB e0.b
      refine ⟨_, rfl, p, _, rfl, dkey X1.hp X1.k3, _, rfl, ao, _, rfl, dget_kv (.inl X1.ho) hn, _, rfl, p, _, rfl, dkey X1.hp X1.k4, _, rfl, as, _, rfl, dget_kv (.inl X1.hs) hn, fs n, _, rfl, X1.vs n hn, fun H2 ml ts ex _ _ _ hml hts => ?_⟩
      have e12 := le_ext ex
      have hR : RegsAt H2 ml (U.cl n).marks := ⟨_, hml, regs_of hts⟩
      have e2 := e0.trans e12
      have X2 := X1.monoB e12.b
      have W2 := W.mono e12
      refine ⟨_, _, rfl, ?_⟩
      refine ⟨_, rfl, p, _, rfl, dkey X2.hp X2.k5, _, rfl, ar, _, rfl, dget_kv (.inl X2.hr) hn, ?_⟩
      show gName 5 _ _ _ _
      have hru := X2.vr n hn
      cases hho : (U.cl n).hook with
      | none =>
        rw [hho] at hru
        obtain ⟨hv0, hp0⟩ := hru
        rw [hv0]
        refine ⟨_, rfl, rfl, _, rfl, iteF ⟨(by decide : 2 ≤ sizeLine), fun q hq => ?_⟩⟩
        have eq := Le.new (o := .tup [V.non, V.bl false]) hq
        refine ⟨q, _, rfl, SqT.of upd_same, rfl, _, _, rfl, _, _, rfl, rfl, ?_⟩
        have e3 := e2.trans eq
        have hml3 := hR.mono eq
        have W3 := W2.mono eq
        generalize upd H2 q (.tup [V.non, V.bl false]) = H3 at e3 hml3 W3
        have hoh3 : OHook H3 V.non (U.cl n).hook := by rw [hho]; rfl
        rw [← hp0]
        have X3 := X.monoB e3.b
        refine ⟨_, rfl, p, _, rfl, dkey X3.hp X3.k2, _, rfl, ab, _, rfl, dget_kv (.inl X3.hb) hn, ?_⟩
        show gName 8 _ _ _ _
        refine ⟨_, rfl, (by decide : 0 ≤ sizeLine), fun e he => ?_⟩
        have eN := Le.new (o := .lst []) he
        have hbs := (e3.trans eN).at (X.vb n hn)
        refine ⟨.list (dS (U.cl n).par), .list [], .lst (SqL.of hbs) dpAll_S, .lst (SqL.of (xs := []) upd_same) .nil, shaped_S (fun x hx => nm_ok (okU.nms x (okU.pin n hn x hx))), by kernel_rfl, _, rfl, ?_⟩
        rw [eqv_nil]
        have e4 := e3.trans eN
        have hml4 := hml3.mono eN
        have hoh4 := hoh3.mono eN
        have W4 := W3.mono eN
        generalize upd H3 e (.lst []) = H4 at e4 hml4 hoh4 W4 hbs
        obtain ⟨dxw, t4, ca4, vi4, th4, ch4, hw4, _⟩ := W4.at_.ex
        have hpz := N.psz
        cases hpar : (U.cl n).par with
        | nil => exact iteT ⟨_, rfl, w, dxw, _, rfl, hw4, fsW_no_make, _, rfl, _, rfl, _, rfl, _, rfl, _, rfl, _, _, [], _, _, _, _, rfl, rfl, (by decide : 0 ≤ 3), fun bt hbt => ⟨w, Y, n, U.cl n, ml, _, bt, H0, rfl, e4.trans (Le.new hbt), W4.mono (Le.new hbt), okV, N, by rw [hpar]; exact upd_same, hml4.mono (Le.new hbt), hoh4.mono (Le.new hbt), fun H' e' W' => k H' e' W'⟩⟩
        | cons b0 r0 =>
          rw [hpar] at hbs hpz
          cases r0 with
          | nil =>
            refine iteF ⟨_, rfl, fb n, _, rfl, .inl (SqL.of hbs), rfl, _, rfl, ?_⟩
            rw [show decide (V.int ((vS [b0]).length : Int) = V.int 1) = true from decide_eq_true rfl]
            exact iteT ⟨_, rfl, w, dxw, _, rfl, hw4, fsW_no_make, _, rfl, _, rfl, fb n, _, 0, .str b0, rfl, rfl, SqL.of hbs, atI_nat (j := 0) rfl, _, rfl, _, rfl, _, rfl, _, rfl, _, _, [.str b0], _, _, _, _, rfl, rfl, (by decide : 1 ≤ 3), fun bt hbt => ⟨w, Y, n, U.cl n, ml, _, bt, H0, rfl, e4.trans (Le.new hbt), W4.mono (Le.new hbt), okV, N, by rw [hpar]; exact upd_same, hml4.mono (Le.new hbt), hoh4.mono (Le.new hbt), fun H' e' W' => k H' e' W'⟩⟩
          | cons b1 r1 =>
            cases r1 with
            | nil =>
              refine iteF ⟨_, rfl, fb n, _, rfl, .inl (SqL.of hbs), rfl, _, rfl, ?_⟩
              rw [show decide (V.int ((vS [b0, b1]).length : Int) = V.int 1) = false from decide_eq_false fun z => absurd (V.int.inj z) (by show ¬ ((2 : Int) = 1); decide)]
              refine iteF ⟨_, rfl, fb n, _, rfl, .inl (SqL.of hbs), rfl, _, rfl, ?_⟩
              rw [show decide (V.int ((vS [b0, b1]).length : Int) = V.int 2) = true from decide_eq_true rfl]
              exact iteT ⟨_, rfl, w, dxw, _, rfl, hw4, fsW_no_make, _, rfl, _, rfl, fb n, _, 0, .str b0, rfl, rfl, SqL.of hbs, atI_nat (j := 0) rfl, _, rfl, fb n, _, 1, .str b1, rfl, rfl, SqL.of hbs, atI_nat (j := 1) rfl, _, rfl, _, rfl, _, rfl, _, rfl, _, _, [.str b0, .str b1], _, _, _, _, rfl, rfl, (by decide : 2 ≤ 3), fun bt hbt => ⟨w, Y, n, U.cl n, ml, _, bt, H0, rfl, e4.trans (Le.new hbt), W4.mono (Le.new hbt), okV, N, by rw [hpar]; exact upd_same, hml4.mono (Le.new hbt), hoh4.mono (Le.new hbt), fun H' e' W' => k H' e' W'⟩⟩
            | cons b2 r2 =>
              cases r2 with
              | nil =>
                refine iteF ⟨_, rfl, fb n, _, rfl, .inl (SqL.of hbs), rfl, _, rfl, ?_⟩
                rw [show decide (V.int ((vS [b0, b1, b2]).length : Int) = V.int 1) = false from decide_eq_false fun z => absurd (V.int.inj z) (by show ¬ ((3 : Int) = 1); decide)]
                refine iteF ⟨_, rfl, fb n, _, rfl, .inl (SqL.of hbs), rfl, _, rfl, ?_⟩
                rw [show decide (V.int ((vS [b0, b1, b2]).length : Int) = V.int 2) = false from decide_eq_false fun z => absurd (V.int.inj z) (by show ¬ ((3 : Int) = 2); decide)]
                exact iteF ⟨_, rfl, w, dxw, _, rfl, hw4, fsW_no_make, _, rfl, _, rfl, fb n, _, 0, .str b0, rfl, rfl, SqL.of hbs, atI_nat (j := 0) rfl, _, rfl, fb n, _, 1, .str b1, rfl, rfl, SqL.of hbs, atI_nat (j := 1) rfl, _, rfl, fb n, _, 2, .str b2, rfl, rfl, SqL.of hbs, atI_nat (j := 2) rfl, _, rfl, _, rfl, _, rfl, _, rfl, _, _, [.str b0, .str b1, .str b2], _, _, _, _, rfl, rfl, (by decide : 3 ≤ 3), fun bt hbt => ⟨w, Y, n, U.cl n, ml, _, bt, H0, rfl, e4.trans (Le.new hbt), W4.mono (Le.new hbt), okV, N, by rw [hpar]; exact upd_same, hml4.mono (Le.new hbt), hoh4.mono (Le.new hbt), fun H' e' W' => k H' e' W'⟩⟩
              | cons b3 r3 => exact absurd hpz (by simp only [List.length_cons]; omega)
      | some hk =>
        rw [hho] at hru
        obtain ⟨a, hv, hva, hta, hHk⟩ := hru
        rw [hva]
        refine ⟨_, rfl, rfl, _, rfl, iteT ⟨_, rfl, a, _, rfl, SqT.of hta, rfl, _, _, rfl, _, _, rfl, rfl, ?_⟩⟩
        have e3 := e2
        have hml3 := hR
        have W3 := W2
        have hoh3 : OHook H2 hv (U.cl n).hook := by rw [hho]; exact hHk
        have X3 := X2
        refine ⟨_, rfl, p, _, rfl, dkey X3.hp X3.k2, _, rfl, ab, _, rfl, dget_kv (.inl X3.hb) hn, ?_⟩
        show gName 8 _ _ _ _
        refine ⟨_, rfl, (by decide : 0 ≤ sizeLine), fun e he => ?_⟩
        have eN := Le.new (o := .lst []) he
        have hbs := (e3.trans eN).at (X.vb n hn)
        refine ⟨.list (dS (U.cl n).par), .list [], .lst (SqL.of hbs) dpAll_S, .lst (SqL.of (xs := []) upd_same) .nil, shaped_S (fun x hx => nm_ok (okU.nms x (okU.pin n hn x hx))), by kernel_rfl, _, rfl, ?_⟩
        rw [eqv_nil]
        have e4 := e3.trans eN
        have hml4 := hml3.mono eN
        have hoh4 := hoh3.mono eN
        have W4 := W3.mono eN
        generalize upd H2 e (.lst []) = H4 at e4 hml4 hoh4 W4 hbs
        obtain ⟨dxw, t4, ca4, vi4, th4, ch4, hw4, _⟩ := W4.at_.ex
        have hpz := N.psz
        cases hpar : (U.cl n).par with
        | nil => exact iteT ⟨_, rfl, w, dxw, _, rfl, hw4, fsW_no_make, _, rfl, _, rfl, _, rfl, _, rfl, _, rfl, _, _, [], _, _, _, _, rfl, rfl, (by decide : 0 ≤ 3), fun bt hbt => ⟨w, Y, n, U.cl n, ml, _, bt, H0, rfl, e4.trans (Le.new hbt), W4.mono (Le.new hbt), okV, N, by rw [hpar]; exact upd_same, hml4.mono (Le.new hbt), hoh4.mono (Le.new hbt), fun H' e' W' => k H' e' W'⟩⟩
        | cons b0 r0 =>
          rw [hpar] at hbs hpz
          cases r0 with
          | nil =>
            refine iteF ⟨_, rfl, fb n, _, rfl, .inl (SqL.of hbs), rfl, _, rfl, ?_⟩
            rw [show decide (V.int ((vS [b0]).length : Int) = V.int 1) = true from decide_eq_true rfl]
            exact iteT ⟨_, rfl, w, dxw, _, rfl, hw4, fsW_no_make, _, rfl, _, rfl, fb n, _, 0, .str b0, rfl, rfl, SqL.of hbs, atI_nat (j := 0) rfl, _, rfl, _, rfl, _, rfl, _, rfl, _, _, [.str b0], _, _, _, _, rfl, rfl, (by decide : 1 ≤ 3), fun bt hbt => ⟨w, Y, n, U.cl n, ml, _, bt, H0, rfl, e4.trans (Le.new hbt), W4.mono (Le.new hbt), okV, N, by rw [hpar]; exact upd_same, hml4.mono (Le.new hbt), hoh4.mono (Le.new hbt), fun H' e' W' => k H' e' W'⟩⟩
          | cons b1 r1 =>
            cases r1 with
            | nil =>
              refine iteF ⟨_, rfl, fb n, _, rfl, .inl (SqL.of hbs), rfl, _, rfl, ?_⟩
              rw [show decide (V.int ((vS [b0, b1]).length : Int) = V.int 1) = false from decide_eq_false fun z => absurd (V.int.inj z) (by show ¬ ((2 : Int) = 1); decide)]
              refine iteF ⟨_, rfl, fb n, _, rfl, .inl (SqL.of hbs), rfl, _, rfl, ?_⟩
              rw [show decide (V.int ((vS [b0, b1]).length : Int) = V.int 2) = true from decide_eq_true rfl]
              exact iteT ⟨_, rfl, w, dxw, _, rfl, hw4, fsW_no_make, _, rfl, _, rfl, fb n, _, 0, .str b0, rfl, rfl, SqL.of hbs, atI_nat (j := 0) rfl, _, rfl, fb n, _, 1, .str b1, rfl, rfl, SqL.of hbs, atI_nat (j := 1) rfl, _, rfl, _, rfl, _, rfl, _, rfl, _, _, [.str b0, .str b1], _, _, _, _, rfl, rfl, (by decide : 2 ≤ 3), fun bt hbt => ⟨w, Y, n, U.cl n, ml, _, bt, H0, rfl, e4.trans (Le.new hbt), W4.mono (Le.new hbt), okV, N, by rw [hpar]; exact upd_same, hml4.mono (Le.new hbt), hoh4.mono (Le.new hbt), fun H' e' W' => k H' e' W'⟩⟩
            | cons b2 r2 =>
              cases r2 with
              | nil =>
                refine iteF ⟨_, rfl, fb n, _, rfl, .inl (SqL.of hbs), rfl, _, rfl, ?_⟩
                rw [show decide (V.int ((vS [b0, b1, b2]).length : Int) = V.int 1) = false from decide_eq_false fun z => absurd (V.int.inj z) (by show ¬ ((3 : Int) = 1); decide)]
                refine iteF ⟨_, rfl, fb n, _, rfl, .inl (SqL.of hbs), rfl, _, rfl, ?_⟩
                rw [show decide (V.int ((vS [b0, b1, b2]).length : Int) = V.int 2) = false from decide_eq_false fun z => absurd (V.int.inj z) (by show ¬ ((3 : Int) = 2); decide)]
                exact iteF ⟨_, rfl, w, dxw, _, rfl, hw4, fsW_no_make, _, rfl, _, rfl, fb n, _, 0, .str b0, rfl, rfl, SqL.of hbs, atI_nat (j := 0) rfl, _, rfl, fb n, _, 1, .str b1, rfl, rfl, SqL.of hbs, atI_nat (j := 1) rfl, _, rfl, fb n, _, 2, .str b2, rfl, rfl, SqL.of hbs, atI_nat (j := 2) rfl, _, rfl, _, rfl, _, rfl, _, rfl, _, _, [.str b0, .str b1, .str b2], _, _, _, _, rfl, rfl, (by decide : 3 ≤ 3), fun bt hbt => ⟨w, Y, n, U.cl n, ml, _, bt, H0, rfl, e4.trans (Le.new hbt), W4.mono (Le.new hbt), okV, N, by rw [hpar]; exact upd_same, hml4.mono (Le.new hbt), hoh4.mono (Le.new hbt), fun H' e' W' => k H' e' W'⟩⟩
              | cons b3 r3 => exact absurd hpz (by simp only [List.length_cons]; omega)
  exact ⟨⟨_, fd, G, T.g_Lmade_in, F.kp, F.bindsN (ps := ["_law_world", "_law_plain", "_law_name"]) fun _ _ _ _ _ _ us hl => match us, hl with | [_, _, _], _ => rfl⟩⟩

end
end Sw
set_option linter.all false
set_option maxRecDepth 100000
set_option maxHeartbeats 4000000
/-! SwF37: the world of a plain world. Terms printed by gen_term.py. -/
namespace Sw
open PySem PySem.Spec PyProof.Rows L2 LamX
section
variable {P : Program} {w : World} {K : PySem.W.Frag} {mg : Str → Option Value} {base : Heap}


def spLMade : Sp := fun vs H Q _ => ∃ p U, vs = [.ref p] ∧ PlnAt H p U ∧ Drawn U ∧ ∀ w H', Le H H' → WorldAt H' w U → Q (.ref w) H'
/-- registered: all of the first i classes', and j of n's -/
def Tb.st (U : Tb) (i : Nat) : Tb := ⟨U.names, U.cl, fun m => if m ∈ U.names.take i then U.ls m else []⟩
def Tb.st2 (U : Tb) (i : Nat) (n : Str) (j : Nat) : Tb := ⟨U.names, U.cl, fun m => if m ∈ U.names.take i then U.ls m else if m = n then (U.ls n).take j else []⟩
theorem st2_sub (U : Tb) (i : Nat) (n : Str) (j : Nat) (m : Str) : ((U.st2 i n j).ls m).Sublist (U.ls m) := by
  show (if m ∈ U.names.take i then U.ls m else if m = n then (U.ls n).take j else []).Sublist (U.ls m)
  split
  · exact List.Sublist.refl _
  · split
    · rename_i e; rw [e]; exact List.take_sublist ..
    · exact List.nil_sublist _
theorem st2_ok {U : Tb} (ok : U.Ok) (i : Nat) (n : Str) (j : Nat) : (U.st2 i n j).Ok :=
  ⟨ok.nd, ok.sz, ok.line, ok.lsz, ok.psz, ok.pin, fun m hm => Nat.le_trans (st2_sub U i n j m).length_le (ok.rsz m hm), fun m hm x hx => ok.reg m hm x ((st2_sub U i n j m).subset hx), fun m hm => (ok.lnd m hm).sublist (st2_sub U i n j m), ok.nms, ok.mth, ok.mrk, ok.mkd, ok.hsz⟩
theorem st2_no {U : Tb} (D : Drawn U) (i : Nat) (n : Str) (j : Nat) {b : Str} (hn : n ∈ U.names) (hb : b ∈ U.ls n) : ¬ (U.st2 i n j).Rn b n := fun h => by
  have hbn := D.b.ok.reg n hn b hb
  have h1 : Rch (nx (U.st2 i n j).shape (U.st2 i n j).R) b n := (Tb.Rn_iff (st2_ok D.b.ok i n j) hbn n).1 h
  have h2 : Rch (nx U.shape U.R) b n := h1.mono (nx_mono (M := U.shape) fun u v q => ⟨q.1, (st2_sub U i n j u).subset q.2⟩)
  exact D.ac n b ⟨⟨hn, D.sw n hn b hb⟩, .inl ⟨hn, hb⟩⟩ h2
theorem st2_step {U : Tb} (ok : U.Ok) {i : Nat} {n : Str} {j : Nat} {b : Str} (hni : n ∉ U.names.take i) (hn : n ∈ U.names) (hj : (U.ls n)[j]? = some b) : SameW ((U.st2 i n j).reg1 n b) (U.st2 i n (j + 1)) := by
  refine ⟨rfl, fun _ _ => rfl, fun m hm => ?_⟩
  show (if m = n then (if ((U.st2 i n j).ls m).contains b = true then (U.st2 i n j).ls m else (U.st2 i n j).ls m ++ [b]) else (U.st2 i n j).ls m) = (U.st2 i n (j + 1)).ls m
  by_cases z : m = n
  · subst z
    rw [if_pos rfl]
    have e1 : ∀ k, (U.st2 i m k).ls m = (U.ls m).take k := fun k => by
      show (if m ∈ U.names.take i then U.ls m else if m = m then (U.ls m).take k else []) = _
      rw [if_neg hni, if_pos rfl]
    rw [e1, e1, if_neg (fun w => take_no (ok.lnd m hn) hj (List.contains_iff_mem.mp w)), take_snoc hj]
  · rw [if_neg z]
    show (if m ∈ U.names.take i then U.ls m else if m = n then (U.ls n).take j else []) = (if m ∈ U.names.take i then U.ls m else if m = n then (U.ls n).take (j + 1) else [])
    rw [if_neg z, if_neg z]
theorem st_start {U : Tb} (i : Nat) (n : Str) : SameW (U.st i) (U.st2 i n 0) := by
  refine ⟨rfl, fun _ _ => rfl, fun m hm => ?_⟩
  show (if m ∈ U.names.take i then U.ls m else []) = (if m ∈ U.names.take i then U.ls m else if m = n then (U.ls n).take 0 else [])
  rw [List.take_zero, ite_self]
theorem st_end {U : Tb} {i : Nat} {n : Str} (hi : U.names[i]? = some n) : SameW (U.st2 i n (U.ls n).length) (U.st (i + 1)) := by
  refine ⟨rfl, fun _ _ => rfl, fun m hm => ?_⟩
  show (if m ∈ U.names.take i then U.ls m else if m = n then (U.ls n).take (U.ls n).length else []) = (if m ∈ U.names.take (i + 1) then U.ls m else [])
  rw [List.take_length, take_snoc hi]
  by_cases h1 : m ∈ U.names.take i
  · rw [if_pos h1, if_pos (List.mem_append_left _ h1)]
  · rw [if_neg h1]
    by_cases h2 : m = n
    · rw [if_pos h2, if_pos (List.mem_append_right _ (by rw [h2]; exact List.mem_cons_self)), h2]
    · rw [if_neg h2, if_neg (fun w => by rcases List.mem_append.mp w with q | q; exact h1 q; exact h2 (List.mem_singleton.mp q))]
theorem pre_step {U : Tb} {i : Nat} {n : Str} (hi : U.names[i]? = some n) : SameW ((U.pre i).add n (U.cl n)) (U.pre (i + 1)) := by
  refine ⟨?_, fun m hm => ?_, fun m hm => ?_⟩
  · show U.names.take i ++ [n] = U.names.take (i + 1)
    rw [take_snoc hi]
  · show (if m = n then U.cl n else U.cl m) = U.cl m
    split
    · rename_i e; rw [e]
    · rfl
  · show (if m = n then [] else []) = []
    rw [ite_self]
theorem pre_end {U : Tb} : SameW (U.pre U.names.length) (U.st 0) := by
  refine ⟨List.take_length .., fun _ _ => rfl, fun m hm => ?_⟩
  show [] = if m ∈ U.names.take 0 then U.ls m else []
  rw [List.take_zero, if_neg (fun z => by cases z)]
theorem st_fin {U : Tb} : SameW (U.st U.names.length) U := by
  refine ⟨rfl, fun _ _ => rfl, fun m hm => ?_⟩
  show (if m ∈ U.names.take U.names.length then U.ls m else []) = U.ls m
  rw [List.take_length, if_pos (show m ∈ U.names from hm)]

theorem sc_Lmade : FnScope ["_law_plain", "_law_world", "_law_name", "_law_other"] ["_law_plain"] (defScope s_Lmade) := ⟨rfl, rfl, rfl, by decide +kernel, rfl, by decide +kernel, by decide +kernel⟩
theorem ok_Lmade (T : Tx K mg) (c_World : CalC P w K mg base "World" cWorld 3 ["self"] spWInit) (c_Lmade_in : Cal P w K mg base "_law_made_in" 8 ["_law_world", "_law_plain", "_law_name"] spLMadeIn) (c_World_admit : CalM P w K mg base cWorld "admit" 7 ["self", "cls", "other"] spAdmit) : Cal P w K mg base "_law_made" 9 ["_law_plain"] spLMade := by
  obtain ⟨fd, F⟩ := T.fn _ fi_Lmade
  have G : FnOk P w K mg base CX0 9 d_Lmade.f fd ["_law_plain"] spLMade := by
    refine F.ok sc_Lmade (fun vs H Q E h => ?_) (fun cdv A outer s H vs Q E hr h => ⟨_, PSs.nox (X := cxOf CX0 P w K mg base _ _ _ _ cdv A outer s H E) ((pss_cons (ps_set (i := 1) sc_Lmade.nd rfl (Or.inl rfl) (pn0 c_World (hr.mono (by decide : 4 ≤ _)) rfl))
    (pss_cons (ps_for PassesOwn.never rfl (wlist K (pe_dget (hu_of hr) (pv 0) pe_str (fun _ _ => rfl))) (pg_name (i := 2) sc_Lmade.nd rfl (Or.inl rfl)) (pss_one (ps_expr (pc c_Lmade_in hr rfl (pa_cons (pv 1) (pa_cons (pv 0) (pa_cons (pv 2) pa_nil)))))))
    (pss_cons (ps_for PassesOwn.never rfl (wlist K (pe_dget (hu_of hr) (pv 0) pe_str (fun _ _ => rfl))) (pg_name (i := 2) sc_Lmade.nd rfl (Or.inl rfl)) (pss_one (ps_for PassesOwn.never rfl (wlist K (pe_dget (hu_of hr) (pe_dget (hu_of hr) (pv 0) pe_str (fun _ _ => rfl)) (pv 2) (fun _ _ => rfl))) (pg_name (i := 3) sc_Lmade.nd rfl (Or.inl rfl)) (pss_one (ps_expr (pm c_World_admit (hr.mono (by decide : 7 ≤ _)) (pv 1) (pa_cons (pv 2) (pa_cons (pv 3) pa_nil))))))))
    (pss_one (ps_ret (pv 1))))))), ?_⟩)
    · obtain ⟨_, _, rfl, _⟩ := h
      rfl
    · obtain ⟨p, U, rfl, PA, D, k⟩ := h
      obtain ⟨kvs, an, ab, ao, as, ar, ad, al, fb, fs, fo, fl, rv, X⟩ := id PA.ex
      have ok := D.b.ok
      refine fun w dw hw hdw hne => ⟨w, dw, H, rfl, upd_same, le_make hw hdw hne, .of hw, fun H1 e1 W1 => ⟨rfl, ?_⟩⟩
      show gName 1 _ _ _ _
      refine ⟨_, rfl, p, _, rfl, dkey (e1.at X.hp) X.k1, an, rfl, ⟨_, SqL.of (e1.at X.hn)⟩, ?_⟩
      refine for_it (ws_list (K := K) (a := an) (l := U.names)) (fun i σ Hc => ∃ v2 v3, σ = [some (.ref p), some (.ref w), v2, v3] ∧ Le H Hc ∧ WldF H Hc w (U.pre i)) ⟨none, none, rfl, e1, WldF.congr (V := emptyT) ⟨(List.take_zero (l := U.names)).symm, fun n hn => (by cases hn), fun n hn => (by cases hn)⟩ W1⟩ (fun i σ Hc _ ⟨_, _, _, q, _⟩ => SqL.of (q.at X.hn)) ?_ ?_
      · rintro i x σ Ha Hb hi ⟨v2, v3, rfl, e, W⟩ ⟨rfl, n, hn, rfl⟩
        exact ⟨_, rfl, _, rfl, _, rfl, w, p, n, H, U.pre i, U, rfl, e, W, D.b.pre_ok i, PA, ok, List.mem_of_getElem? hn, D.b.nc i n hn, fun H' e' W' => ⟨_, _, rfl, e', W'.congr (pre_step hn)⟩⟩
      rintro σ H2 ⟨v2, v3, rfl, e2, W2⟩
      have W2' := W2.congr pre_end
      refine ⟨_, rfl, p, _, rfl, dkey (e2.at X.hp) X.k1, an, rfl, ⟨_, SqL.of (e2.at X.hn)⟩, ?_⟩
      refine for_it (ws_list (K := K) (a := an) (l := U.names)) (fun i σ Hc => ∃ v2 v3, σ = [some (.ref p), some (.ref w), v2, v3] ∧ Le H Hc ∧ WldF H Hc w (U.st i)) ⟨_, _, rfl, e2, W2'⟩ (fun i σ Hc _ ⟨_, _, _, q, _⟩ => SqL.of (q.at X.hn)) ?_ ?_
      · rintro i x σ Ha Hb hi ⟨v2, v3, rfl, e, W⟩ ⟨rfl, n, hn, rfl⟩
        have hnn := List.mem_of_getElem? hn
        have hni := take_no ok.nd hn
        refine ⟨_, rfl, p, _, rfl, dkey (e.at X.hp) X.k7, _, rfl, al, _, rfl, dget_kv (.inl (e.at X.hl)) hnn, fl n, rfl, ⟨_, SqL.of (e.at (X.vl n hnn))⟩, ?_⟩
        refine for_it (ws_list (K := K) (a := fl n) (l := U.ls n)) (fun j σ Hc => ∃ v3, σ = [some (.ref p), some (.ref w), some (.str n), v3] ∧ Le H Hc ∧ WldF H Hc w (U.st2 i n j)) ⟨_, rfl, e, W.congr (st_start i n)⟩ (fun j σ Hc _ ⟨_, _, q, _⟩ => SqL.of (q.at (X.vl n hnn))) ?_ ?_
        · rintro j x σ Hc Hd hj ⟨v3', rfl, e', W'⟩ ⟨rfl, b, hb, rfl⟩
          obtain ⟨dxw, t4, ca4, vi4, th4, ch4, hw4, _⟩ := W'.at_.ex
          have hbm := List.mem_of_getElem? hb
          exact ⟨_, rfl, w, dxw, _, rfl, hw4, fsW_no_admit, _, rfl, _, rfl, w, U.st2 i n j, n, b, H, rfl, e', W', st2_ok ok i n j, hnn, ok.reg n hnn b hbm, D.sw n hnn b hbm, st2_no D i n j hnn hbm, fun v H' e'' W'' => ⟨_, rfl, e'', W''.congr (st2_step ok hni hnn hb)⟩⟩
        · rintro σ Hc ⟨v3', rfl, e', W'⟩
          exact ⟨_, _, rfl, e', W'.congr (st_end hn)⟩
      rintro σ H3 ⟨v2', v3', rfl, e3, W3⟩
      exact ⟨_, rfl, k w H3 e3 (W3.congr st_fin).at_⟩
  exact ⟨⟨_, fd, G, T.g_Lmade, F.kp, F.bindsN (ps := ["_law_plain"]) fun _ _ _ _ _ _ us hl => match us, hl with | [_], _ => rfl⟩⟩

end
end Sw
set_option linter.all false
set_option maxRecDepth 100000
set_option maxHeartbeats 4000000
/-! SwF38: a plain world without a registration. Terms printed by gen_term.py. -/
namespace Sw
open PySem PySem.Spec PyProof.Rows L2 LamX
section
variable {P : Program} {w : World} {K : PySem.W.Frag} {mg : Str → Option Value} {base : Heap}


def spLWithout : Sp := fun vs H Q _ => ∃ p l U pr, vs = [.ref p, .ref l] ∧ PlnAt H p U ∧ U.Ok ∧ RegsAt H l [pr] ∧ pr.1 ∈ U.names ∧ pr.2 ∈ U.ls pr.1 ∧ ∀ p' H', Le H H' → PlnAt H' p' (U.rem pr.1 pr.2) → Q (.ref p') H'
theorem Le.of_b {H0 H : Hp} {q : Addr} {o o' : HO} (e : Le H0 H) (f : FreB H0 q) (hq : H q = some o) (n : plainO o = true) (k : keepO o = true) : Le H0 (upd H q o') := e.mutF f hq n

theorem sc_Lwithout : FnScope ["_law_plain", "_law_pairs", "_law_found", "_law_name", "_law_other"] ["_law_plain", "_law_pairs"] (defScope s_Lwithout) := ⟨rfl, rfl, rfl, by decide +kernel, rfl, by decide +kernel, by decide +kernel⟩
theorem ok_Lwithout (T : Tx K mg) (c_Lcopy : Cal P w K mg base "_law_copy" 1 ["_law_plain"] spLCopy) : Cal P w K mg base "_law_without" 2 ["_law_plain", "_law_pairs"] spLWithout := by
  obtain ⟨fd, F⟩ := T.fn _ fi_Lwithout
  have G : FnOk P w K mg base CX0 2 d_Lwithout.f fd ["_law_plain", "_law_pairs"] spLWithout := by
    refine F.ok sc_Lwithout (fun vs H Q E h => ?_) (fun cdv A outer s H vs Q E hr h => ⟨_, PSs.nox (X := cxOf CX0 P w K mg base _ _ _ _ cdv A outer s H E) ((pss_cons (ps_set (i := 2) sc_Lwithout.nd rfl (Or.inl rfl) (pc c_Lcopy hr rfl (pa_cons (pv 0) pa_nil)))
    (pss_cons (ps_for PassesOwn.never rfl (wlist K (pv 1)) (wtup (n := 2) K rfl (pgs_cons (pg_name (i := 3) sc_Lwithout.nd rfl (Or.inl rfl)) (pgs_cons (pg_name (i := 4) sc_Lwithout.nd rfl (Or.inl rfl)) pgs_nil))) (pss_one (ps_expr (pe_bm PySem.F.plainAttrs_list PySem.F.slot_list_remove PySem.F.type_list_remove mt_removeS (pe_dget (hu_of hr) (pe_dget (hu_of hr) (pv 2) pe_str (fun _ _ => rfl)) (pv 3) (fun _ _ => rfl)) (pa_cons (pv 4) pa_nil)))))
    (pss_one (ps_ret (pv 2)))))), ?_⟩)
    · obtain ⟨_, _, _, _, rfl, _⟩ := h
      rfl
    · obtain ⟨p, l, U, ⟨a, b⟩, rfl, PA, ok, ⟨rs, hl, hp⟩, ha, hb, k⟩ := h
      cases hp with | cons h1 hp => ?_
      cases hp
      obtain ⟨q, rfl, hq⟩ := h1
      refine ⟨_, rfl, p, U, rfl, PA, ok, fun p1 H1 e1 PF => ?_⟩
      show gName 2 _ _ _ _
      have hl1 := e1.at hl
      refine ⟨_, rfl, l, rfl, ⟨_, SqL.of hl1⟩, ?_⟩
      refine for_it (walk_list (K := K) (a := l) (xs := [V.ref q])) (fun i σ Hc => ∃ v3 v4, σ = [some (.ref p), some (.ref l), some (.ref p1), v3, v4] ∧ Le H Hc ∧ (i = 0 → PlnF H Hc p1 U) ∧ (i = 1 → PlnAt Hc p1 (U.rem a b)) ∧ Hc l = some (.lst [V.ref q])) ⟨none, none, rfl, e1, fun _ => PF, fun z => (by cases z), hl1⟩ (fun i σ Hc _ ⟨_, _, _, _, _, _, z⟩ => SqL.of z) ?_ ?_
      · rintro i x σ Ha Hb hi ⟨v3, v4, rfl, e, h0, _, hlc⟩ ⟨rfl, hx⟩
        obtain rfl : i = 0 := by have : i < 1 := hi; omega
        cases hx
        obtain ⟨kvs, an, ab, ao, as, ar, ad, al, fb, fs, fo, fl, rv, X, O⟩ := (h0 rfl).ex
        obtain ⟨j, hj, hno, her⟩ := erase_ix hb
        have hA := X.vl a ha
        refine ⟨q, _, rfl, SqT.of (e.at hq), rfl, _, _, rfl, _, _, rfl, rfl, ?_⟩
        refine ⟨_, rfl, p1, _, rfl, dkey X.hp X.k7, _, rfl, al, _, rfl, dget_kv (.inl X.hl) ha, .inl ⟨rfl, _, SqL.of hA⟩, _, rfl, fl a, U.ls a, b, j, rfl, rfl, hA, hj, hno, ?_⟩
        rw [her]
        have hset := pln_set (U' := U.rem a b) (l' := (U.ls a).erase b) X O ha rfl rfl fun n _ => by
          show (if n = a then (U.ls n).erase b else U.ls n) = _
          by_cases z : n = a
          · rw [if_pos z, if_pos z, z]
          · rw [if_neg z, if_neg z]
        have E := e.of_b (o' := .lst (vS ((U.ls a).erase b))) (O.ffl a ha) hA rfl (keep_vS _)
        exact ⟨_, _, rfl, E, fun z => (by cases z), fun _ => ⟨_, _, _, _, _, _, _, _, _, _, _, _, _, hset.1⟩, E.at hl⟩
      rintro σ H2 ⟨v3, v4, rfl, e, _, h1, _⟩
      exact ⟨_, rfl, k p1 H2 e (h1 rfl)⟩
  exact ⟨⟨_, fd, G, T.g_Lwithout, F.kp, F.bindsN (ps := ["_law_plain", "_law_pairs"]) fun _ _ _ _ _ _ us hl => match us, hl with | [_, _], _ => rfl⟩⟩

end
end Sw
set_option linter.all false
set_option maxRecDepth 100000
set_option maxHeartbeats 4000000
/-! SwF39: needless ones are left out one by one. Terms printed by gen_term.py. -/
namespace Sw
open PySem PySem.Spec PyProof.Rows L2 LamX
section
variable {P : Program} {w : World} {K : PySem.W.Frag} {mg : Str → Option Value} {base : Heap}


def spLEnd : Sp := fun vs H Q _ => ∃ b p w U N, vs = [.ref b, .ref p, .ref w] ∧ Tabs TBS H ∧ BagAt H b N ∧ N ≤ 500000 ∧ PlnAt H p U ∧ WorldAt H w U ∧ Drawn U ∧
  ∀ l H' ps, LeB H H' → BagAt H' b (N + 2000) → PsOk U ps → RegsAt H' l (U.regs.filter fun pr => !U.ndl ps pr) → Q (.ref l) H'
theorem SameCl.pre {U V : Tb} (s : SameCl V U) (i : Nat) : SameCl (U.pre i) (V.pre i) :=
  ⟨by show U.names.take i = V.names.take i; rw [s.nm], fun n hn => (s.cl n (by rw [s.nm]; exact List.mem_of_mem_take hn)).symm⟩
theorem Way.drawn {U V : Tb} (D : Drawn U) (W : Way U V) : Drawn V := by
  refine ⟨⟨W.ok, fun i n hn => ?_⟩, fun n hn m hm => ?_, W.ac⟩
  · have hn' : U.names[i]? = some n := by rw [← W.sc.nm]; exact hn
    rw [W.sc.cl n (List.mem_of_getElem? hn)]
    exact (D.b.nc i n hn').congr (D.b.pre_ok i) (W.sc.pre i)
  · have h := W.sub n m ⟨hn, hm⟩
    rw [W.sc.sworn W.ok hn]
    exact D.sw n h.1 m h.2
theorem Tb.Ok.regs_len2 {U : Tb} (ok : U.Ok) : U.regs.length ≤ 400 := by
  have h := flat_len (fun n => (U.ls n).map fun o => (n, o)) 20 U.names fun n hn => by
    rw [List.length_map]
    exact Nat.le_trans (length_le_of_nodup_of_subset _ _ (ok.lnd n hn) (ok.reg n hn)) ok.sz
  have h2 := Nat.mul_le_mul_right 20 ok.sz
  exact Nat.le_trans h h2
theorem eqv_nilP (r : List (Str × Str)) : PyData.eqv (.list (r.map dP)) (.list []) = r.isEmpty := by cases r <;> rfl
theorem bag_refs {H : Hp} {b l : Addr} {N : Nat} {ps : List (Str × Str)} {rs : List V} (hB : BagAt H b N) (hl : H l = some (.lst rs)) (hp : Paired (fun p v => PairAt H v p) ps rs) : l ≠ b := by
  refine hB.ne hl fun x y c z => ?_
  have z2 := HO.lst.inj z
  rw [z2] at hp
  cases hp with | cons h _ => ?_
  obtain ⟨a, h1, _⟩ := h
  cases h1
theorem RegsAt.len {H : Hp} {l : Addr} {ps : List (Str × Str)} (h : RegsAt H l ps) : ∃ rs, H l = some (.lst rs) ∧ Paired (fun p v => PairAt H v p) ps rs ∧ rs.length = ps.length := by
  obtain ⟨rs, h1, h2⟩ := h
  exact ⟨rs, h1, h2, (Paired.length h2).symm⟩
theorem paired_in {α : Type} {R : α → V → Prop} : ∀ {l : List α} {r : List V}, Paired R l r → ∀ {v : V}, v ∈ r → ∃ a ∈ l, R a v
  | _, _, .nil, _, h => by cases h
  | _, _, .cons h t, v, hv => by
    rcases List.mem_cons.mp hv with e | e
    · rw [e]; exact ⟨_, List.mem_cons_self, h⟩
    · obtain ⟨a, h1, h2⟩ := paired_in t e
      exact ⟨a, List.mem_cons_of_mem _ h1, h2⟩

theorem sc_Lend : FnScope ["_law_bag_here", "_law_plain", "_law_world", "_law_here", "_law_left", "_law_made_here", "_law_before"] ["_law_bag_here", "_law_plain", "_law_world"] (defScope s_Lend) := ⟨rfl, rfl, rfl, by decide +kernel, rfl, by decide +kernel, by decide +kernel⟩
theorem ok_Lend (T : Tx K mg) (c_Lcopy : Cal P w K mg base "_law_copy" 1 ["_law_plain"] spLCopy) (c_needless : Cal P w K mg base "needless" 11 ["world"] spNeed) (c_Lmade : Cal P w K mg base "_law_made" 9 ["_law_plain"] spLMade) (c_alike : Cal P w K mg base "alike" 11 ["one", "other"] spAlike) (c_Llisted : Cal P w K mg base "_law_listed" 1 ["_law_plain"] spLListed) (c_Lpick : Cal P w K mg base "_law_pick" 2 ["_law_bag_here", "_law_some"] (spLPickI K)) (c_Lwithout : Cal P w K mg base "_law_without" 2 ["_law_plain", "_law_pairs"] spLWithout) : Cal P w K mg base "_law_end" 12 ["_law_bag_here", "_law_plain", "_law_world"] spLEnd := by
  obtain ⟨fd, F⟩ := T.fn _ fi_Lend
  have G : FnOk P w K mg base CX0 12 d_Lend.f fd ["_law_bag_here", "_law_plain", "_law_world"] spLEnd := by
    refine F.ok sc_Lend (fun vs H Q E h => ?_) (fun cdv A outer s H vs Q E hr h => ⟨_, PSs.nox (X := cxOf CX0 P w K mg base _ _ _ _ cdv A outer s H E) ((pss_cons (ps_set (i := 3) sc_Lend.nd rfl (Or.inl rfl) (pc c_Lcopy (hr.mono (by decide : 1 ≤ _)) rfl (pa_cons (pv 1) pa_nil)))
    (pss_cons (ps_set (i := 4) sc_Lend.nd rfl (Or.inl rfl) (pc c_needless hr rfl (pa_cons (pc c_Lmade (hr.mono (by decide : 9 ≤ _)) rfl (pa_cons (pv 3) pa_nil)) pa_nil)))
    (pss_cons (ps_while PassesOwn.never (pt_cmpR (wne K hr.units) (pv 4) (pe_lst pa_nil) (nomark _)) (pss_cons (ps_set (i := 3) sc_Lend.nd rfl (Or.inl rfl) (pc c_Lwithout (hr.mono (by decide : 2 ≤ _)) rfl (pa_cons (pv 3) (pa_cons (pe_lst (pa_cons (pc c_Lpick (hr.mono (by decide : 2 ≤ _)) rfl (pa_cons (pv 0) (pa_cons (pv 4) pa_nil))) pa_nil)) pa_nil))))
    (pss_cons (ps_par (i := 5) (j := 6) rfl sc_Lend.nd rfl rfl (by decide) rfl rfl (pa_cons (pc c_Lmade (hr.mono (by decide : 9 ≤ _)) rfl (pa_cons (pv 3) pa_nil)) (pa_cons (pe_callB (wlen K) (by rfl) T.f_len bb_len (pa_cons (pv 4) pa_nil)) pa_nil)) (by rfl))
    (pss_cons (ps_set (i := 4) sc_Lend.nd rfl (Or.inl rfl) (pc c_needless hr rfl (pa_cons (pv 5) pa_nil)))
    (pss_one (ps_if (PW.pt (pw_or (pt_not (pt_val (pc c_alike hr rfl (pa_cons (pv 5) (pa_cons (pv 2) pa_nil))))) (pw_or1 (pt_cmpR op_ne (pe_callB (wlen K) (by rfl) T.f_len bb_len (pa_cons (pv 4) pa_nil)) (pe_op op_sub (pv 6) pe_int) (nomark _))))) (pss_one (ps_ret pe_non)) pss_nil))))))
    (pss_one (ps_ret (pc c_Llisted (hr.mono (by decide : 1 ≤ _)) rfl (pa_cons (pv 3) pa_nil)))))))), ?_⟩)
    · obtain ⟨_, _, _, _, _, rfl, _⟩ := h
      rfl
    · obtain ⟨b, p, w, U, N, rfl, hT, hB, hN, PA, WA, D, k⟩ := h
      have okU := D.b.ok
      refine ⟨_, rfl, p, U, rfl, PA, okU, fun hr1 H1 e1 PF1 => ?_⟩
      show gName 3 _ _ _ _
      refine ⟨_, rfl, hr1, U, rfl, PF1.at_, D, fun w2 H2 e2 WA2 => ?_⟩
      have hT2 := (e1.trans e2).tab hT
      refine ⟨w2, U, rfl, hT2, WA2, okU, fun lf H3 ps e3 hps hR => ?_⟩
      show gName 4 _ _ _ _
      have e13 := (e1.trans e2).trans e3
      have hcz := Nat.le_trans (List.length_filter_le (U.ndl ps) U.regs) okU.regs_len
      refine ⟨fun q' σ' H' => ∃ hr lf V ps N' v5 v6, σ' = [some (.ref b), some (.ref p), some (.ref w), some (.ref hr), some (.ref lf), v5, v6] ∧ LeB H H' ∧ BagAt H' b N' ∧ N' + q' ≤ N + 2000 ∧ PlnAt H' hr V ∧ Way U V ∧ PsOk V ps ∧ RegsAt H' lf (V.regs.filter (V.ndl ps)) ∧ (V.regs.filter (V.ndl ps)).length = q', ⟨_, hr1, lf, U, ps, N, none, none, rfl, e13.b, hB.mono e13, by omega, PF1.at_.mono (e2.trans e3), Way.start okU D.b.cls D.ac, hps, hR, rfl⟩, ?_⟩
      rintro q σ Hc ⟨hr0, lf, V, ps, N', v5, v6, rfl, e, Bc, hNq, PAc, W, hps, hR, hq⟩
      obtain ⟨rs, hl, hp, hrl⟩ := hR.len
      have hnmP : ∀ pr ∈ V.regs.filter (V.ndl ps), pr.1 ∈ Tb.NAMES ∧ pr.2 ∈ Tb.NAMES := fun pr hpr => W.ok.regs_nm (List.mem_filter.mp hpr).1
      refine ⟨_, rfl, (by decide : 0 ≤ sizeLine), fun el hel => ?_⟩
      have eN := Le.new (o := .lst []) hel
      refine ⟨.list ((V.regs.filter (V.ndl ps)).map dP), .list [], .lst (SqL.of (eN.at hl)) (dpAll_P (Paired.mapP hp fun _ _ z => z.mono eN)), .lst (SqL.of (xs := []) upd_same) .nil, shaped_Ps hnmP, by kernel_rfl, _, rfl, ?_⟩
      rw [eqv_nilP]
      have Bn := Bc.mono eN
      have PAn := PAc.mono eN
      have hRn := hR.mono eN
      have hln := eN.at hl
      have hpn : Paired (fun p v => PairAt (upd Hc el (.lst [])) v p) (V.regs.filter (V.ndl ps)) rs := Paired.mapP hp fun _ _ z => z.mono eN
      have en := e.trans eN.b
      generalize upd Hc el (.lst []) = Hn at Bn PAn hRn hln hpn en
      cases hemp : (V.regs.filter (V.ndl ps)).isEmpty with
      | true =>
        have hnil : V.regs.filter (V.ndl ps) = [] := List.isEmpty_iff.mp hemp
        refine iteF ⟨_, rfl, hr0, V, rfl, PAn, W.ok, fun l H' e' hR' => ?_⟩
        have hpsU : PsOk U ps := W.sc.psok hps
        refine k l H' ps (en.trans e'.b) ((Bn.mono e').lt (by omega)) hpsU ?_
        rw [← W.end_ hps hpsU hnil]
        exact hR'
      | false =>
        refine iteT ⟨fun σ' H' => ∃ q', q' < q ∧ ∃ hr lf V ps N' v5 v6, σ' = [some (.ref b), some (.ref p), some (.ref w), some (.ref hr), some (.ref lf), v5, v6] ∧ LeB H H' ∧ BagAt H' b N' ∧ N' + q' ≤ N + 2000 ∧ PlnAt H' hr V ∧ Way U V ∧ PsOk V ps ∧ RegsAt H' lf (V.regs.filter (V.ndl ps)) ∧ (V.regs.filter (V.ndl ps)).length = q', fun σ' H' z => z, ?_⟩
        have hrne : rs ≠ [] := fun z => by
          rw [z] at hrl
          have : V.regs.filter (V.ndl ps) = [] := List.eq_nil_of_length_eq_zero hrl.symm
          rw [this] at hemp
          cases hemp
        have hcz2 := Nat.le_trans (List.length_filter_le (V.ndl ps) V.regs) W.ok.regs_len2
        have nlb := bag_refs Bn hln hpn
        have hq1 : 1 ≤ q := by
          rw [← hq, ← hrl]
          cases rs with
          | nil => exact absurd rfl hrne
          | cons a r => rw [List.length_cons]; omega
        refine ⟨_, rfl, _, rfl, _, rfl, pick_k Bn (by omega) hln nlb hrne (by omega) fun v H4 hv e4 B4 u4 => ⟨(by decide : 1 ≤ sizeLine), fun l1 hl1 => ?_⟩⟩
        obtain ⟨pr, hprm, a, rfl, hpa⟩ := paired_in hpn hv
        obtain ⟨hpr, hnd⟩ := List.mem_filter.mp hprm
        obtain ⟨h1, h2⟩ := regs_mem hpr
        obtain ⟨W', hcnt⟩ := W.step hps hpr hnd
        have D' := Way.drawn D W'
        have e5 := Le.new (o := .lst [L2.V.ref a]) hl1
        have hl1' : (upd H4 l1 (.lst [L2.V.ref a])) l1 = some (.lst [L2.V.ref a]) := upd_same
        have B5 := B4.mono e5
        have E5 : LeB Hn (upd H4 l1 (.lst [L2.V.ref a])) := e4.trans e5.b
        have hl5 := e5.at ((u4 lf nlb).trans hln)
        generalize upd H4 l1 (.lst [L2.V.ref a]) = H5 at hl1' B5 E5 hl5
        refine ⟨hr0, l1, V, pr, rfl, PAn.monoB E5, W.ok, ⟨[L2.V.ref a], hl1', .cons ⟨a, rfl, E5.at hpa⟩ .nil⟩, h1, h2, fun hr2 H6 e6 PA6 => ?_⟩
        show gName 3 _ _ _ _
        have hl6 := e6.at hl5
        have B6 := B5.mono e6
        refine ⟨_, rfl, hr2, V.rem pr.1 pr.2, rfl, PA6, D', fun w3 H7 e7 WA7 => ⟨_, rfl, lf, _, rfl, .inl (SqL.of (e7.at hl6)), _, _, rfl, ?_⟩⟩
        have hT7 := ((en.trans E5).trans (e6.trans e7).b).tab hT
        refine ⟨_, rfl, w3, V.rem pr.1 pr.2, rfl, hT7, WA7, W'.ok, fun lf2 H8 ps2 e8 hps2 hR2 => ?_⟩
        show gName 4 _ _ _ _
        have E8 : LeB H H8 := (en.trans E5).trans ((e6.trans e7).trans e8).b
        have cnt := hcnt ps2 hps2
        obtain ⟨rs2, hl8, hp8, hrl2⟩ := hR2.len
        refine ⟨_, rfl, _, rfl, w3, w, V.rem pr.1 pr.2, U, rfl, E8.tab hT, WA7.mono e8, WA.monoB E8, W'.ok, okU, W'.sc, fun ps3 hps3 c hc d hd => W'.st okU hps3 hc hd, fun H9 e9 => ⟨_, rfl, iteF ?_⟩⟩
        have hl9 := e9.at hl8
        refine ⟨_, rfl, lf2, _, rfl, .inl (SqL.of hl9), _, rfl, _, _, rfl, rfl, rfl, _, rfl, ?_⟩
        rw [show (!decide (L2.V.int (rs2.length : Int) = L2.V.int ((rs.length : Int) - 1))) = false from by
          rw [Bool.not_eq_false', decide_eq_true_eq]
          congr 1
          omega]
        refine iteF ?_
        have E69 := (e6.trans e7).trans (e8.trans e9)
        refine ⟨(V.regs.filter (V.ndl ps)).length - 1, by omega, hr2, lf2, V.rem pr.1 pr.2, ps2, N' + 1, _, _, rfl, E8.trans e9.b, B5.mono E69, by omega, PA6.mono (e7.trans (e8.trans e9)), W', hps2, hR2.mono e9, by omega⟩
  exact ⟨⟨_, fd, G, T.g_Lend, F.kp, F.bindsN (ps := ["_law_bag_here", "_law_plain", "_law_world"]) fun _ _ _ _ _ _ us hl => match us, hl with | [_, _, _], _ => rfl⟩⟩

end
end Sw
set_option linter.all false
set_option maxRecDepth 100000
set_option maxHeartbeats 4000000
/-! SwF40: the law. Terms printed by gen_term.py. -/
namespace Sw
open PySem PySem.Spec PyProof.Rows L2 LamX
section
variable {P : Program} {w : World} {K : PySem.W.Frag} {mg : Str → Option Value} {base : Heap}


def spLaw (K : PySem.W.Frag) : Sp := fun vs H Q _ => ∃ a ns, vs = [.ref a] ∧ Tabs TBS H ∧ SqL K H a (List.map V.int ns) ∧ ns.length ≤ sizeLine ∧ ∀ H', Q (.bl true) H'
theorem LeB.script {H H' : Hp} {a : Addr} {ns : List Int} (e : LeB H H') (h : SqL K H a (List.map V.int ns)) : ∃ ns', SqL K H' a (List.map V.int ns') := by
  rcases h with (h | ⟨o, h⟩) | h
  · cases k : bagS (.lst (List.map V.int ns)) with
    | false => exact ⟨ns, .inl (.inl (e.at h (by unfold keepO; rw [k]; rfl)))⟩
    | true =>
      obtain ⟨x, y, c, w⟩ := bag_of k
      rw [w] at h
      obtain ⟨x1, y1, c1, h1⟩ := e.bg a x y c h
      exact ⟨[x1, y1, c1], .inl (.inl h1)⟩
  · exact ⟨ns, .inl (.inr ⟨o, e.at h⟩)⟩
  · exact ⟨ns, .inr h⟩
theorem shaped_2 {ps : List (Str × Str)} (h : ∀ p ∈ ps, p.1 ∈ Tb.NAMES ∧ p.2 ∈ Tb.NAMES) : SeqAt.shaped (.list [.list (ps.map dP), .list (ps.map dP)]) = true := by
  obtain ⟨a, b⟩ := layAll_P h
  unfold SeqAt.shaped
  rw [show PyData.canLay0 (.list [.list (ps.map dP), .list (ps.map dP)]) = (PyData.canLayAll0 (ps.map dP) && (PyData.canLayAll0 (ps.map dP) && true)) from rfl, a]
  show decide (max (PyData.depthAll (ps.map dP) + 1) (max (PyData.depthAll (ps.map dP) + 1) 0) + 1 ≤ 64) = true
  rw [decide_eq_true_eq]
  omega

theorem sc_law : FnScope ["_law_script", "_law_at", "_law_bag_here", "_law_turn", "_law_plain", "_law_world", "_law_due"] ["_law_script"] (defScope s_law) := ⟨rfl, rfl, rfl, by decide +kernel, rfl, by decide +kernel, by decide +kernel⟩
theorem ok_law (T : Tx K mg) {fd : FuncData} (F : FunD K d_law.name d_law.qual d_law.params d_law.body d_law.scope [] d_law.kws d_law.f fd) (c_Lbag : Cal P w K mg base "_law_bag" 1 ["_law_script", "_law_at"] (spLBag K)) (c_Ldrawn : Cal P w K mg base "_law_drawn" 6 ["_law_bag_here", "_law_most"] spLDrawn) (c_Lmade : Cal P w K mg base "_law_made" 9 ["_law_plain"] spLMade) (c_kernel : Cal P w K mg base "kernel" 12 ["world"] spKernel) (c_Lend : Cal P w K mg base "_law_end" 12 ["_law_bag_here", "_law_plain", "_law_world"] spLEnd) : FnOk P w K mg base CX0 13 d_law.f fd ["_law_script"] (spLaw K) := by
    refine F.ok sc_law (fun vs H Q E h => ?_) (fun cdv A outer s H vs Q E hr h => ⟨_, PSs.nox (X := cxOf CX0 P w K mg base _ _ _ _ cdv A outer s H E) ((pss_cons (ps_for PassesOwn.never rfl (pi_range1 (by rfl) T.f_range (pa_cons (pe_callB (call_max2 rfl) (by rfl) T.f_max bb_max (pa_cons pe_int (pa_cons (pe_callB (call_min2 rfl) (by rfl) T.f_min bb_min (pa_cons pe_int (pa_cons (pe_callB (wlen K) (by rfl) T.f_len bb_len (pa_cons (pv 0) pa_nil)) pa_nil))) pa_nil))) pa_nil)) (pg_name (i := 1) sc_law.nd rfl (Or.inl rfl)) (pss_cons (ps_set (i := 2) sc_law.nd rfl (Or.inl rfl) (pc c_Lbag (hr.mono (by decide : 1 ≤ _)) rfl (pa_cons (pv 0) (pa_cons (pv 1) pa_nil))))
    (pss_one (ps_for PassesOwn.never rfl (pi_range1 (by rfl) T.f_range (pa_cons pe_int pa_nil)) (pg_name (i := 3) sc_law.nd rfl (Or.inl rfl)) (pss_cons (ps_set (i := 4) sc_law.nd rfl (Or.inl rfl) (pc c_Ldrawn (hr.mono (by decide : 6 ≤ _)) rfl (pa_cons (pv 2) (pa_cons pe_int pa_nil))))
    (pss_cons (ps_set (i := 5) sc_law.nd rfl (Or.inl rfl) (pc c_Lmade (hr.mono (by decide : 9 ≤ _)) rfl (pa_cons (pv 4) pa_nil)))
    (pss_cons (ps_set (i := 6) sc_law.nd rfl (Or.inl rfl) (pc c_kernel hr rfl (pa_cons (pv 5) pa_nil)))
    (pss_one (ps_if (pt_cmpR (wne K hr.units) (pe_lst (pa_cons (pc c_Lend hr rfl (pa_cons (pv 2) (pa_cons (pv 4) (pa_cons (pv 5) pa_nil)))) (pa_cons (pc c_Lend hr rfl (pa_cons (pv 2) (pa_cons (pv 4) (pa_cons (pv 5) pa_nil)))) pa_nil))) (pe_lst (pa_cons (pv 6) (pa_cons (pv 6) pa_nil))) (nomark _)) (pss_one (ps_ret pe_bl)) pss_nil)))))))))
    (pss_one (ps_ret pe_bl)))), ?_⟩)
    · obtain ⟨_, _, rfl, _⟩ := h
      rfl
    · obtain ⟨a, ns, rfl, hT, hS, hz, k⟩ := h
      refine ⟨_, rfl, a, _, rfl, .inl hS, _, _, rfl, _, _, rfl, _, rfl, ?_, ?_, ?_⟩
      · split <;> split <;> omega
      · split <;> split <;> omega
      generalize hj : (if (if ((List.map V.int ns).length : Int) < 3 then ((List.map V.int ns).length : Int) else 3) > 2 then (if ((List.map V.int ns).length : Int) < 3 then ((List.map V.int ns).length : Int) else 3) else 2) = j
      have hj3 : j ≤ 3 := by rw [← hj]; split <;> split <;> omega
      clear hj
      refine for_it (walk_range (lo := 0) (n := j.toNat)) (fun i σ Hc => ∃ v1 v2 v3 v4 v5 v6, σ = [some (.ref a), v1, v2, v3, v4, v5, v6] ∧ LeB H Hc) ⟨none, none, none, none, none, none, rfl, LeB.refl H⟩ (fun i σ H' _ _ => trivial) ?_ ?_
      · rintro i x σ Ha Hb hi ⟨v1, v2, v3, v4, v5, v6, rfl, e⟩ ⟨rfl, rfl⟩
        obtain ⟨ns', hS'⟩ := e.script hS
        refine ⟨_, rfl, _, rfl, a, ns', 0 + (i : Nat), rfl, hS', by omega, by omega, fun b H1 e1 fb B1 => ?_⟩
        show gName 2 _ _ _ _
        refine ⟨3, rfl, by decide, by decide, ?_⟩
        refine for_it (walk_range (lo := 0) (n := (3 : Int).toNat)) (fun t σ Hc => ∃ v1 v3 v4 v5 v6, σ = [some (.ref a), v1, some (.ref b), v3, v4, v5, v6] ∧ LeB H Hc ∧ BagAt Hc b (5000 * t)) ⟨_, _, _, _, _, rfl, e.trans e1.b, B1⟩ (fun t σ H' _ _ => trivial) ?_ ?_
        · rintro t x σ Hc Hd ht ⟨v1, v3, v4, v5, v6, rfl, e2, B2⟩ ⟨rfl, rfl⟩
          have ht3 : t < 3 := ht
          refine ⟨_, rfl, b, _, rfl, B2, by omega, fun p U H3 e3 D PF B3 => ?_⟩
          show gName 4 _ _ _ _
          refine ⟨_, rfl, p, U, rfl, PF.at_, D, fun w2 H4 e4 WA => ?_⟩
          show gName 5 _ _ _ _
          have okU := D.b.ok
          have E4 := (e2.trans e3).trans e4.b
          refine ⟨_, rfl, w2, U, rfl, E4.tab hT, WA, okU, fun due H5 ps e5 hps hR => ?_⟩
          show gName 6 _ _ _ _
          have E5 := E4.trans e5.b
          refine ⟨_, rfl, _, rfl, _, rfl, b, p, w2, U, _, rfl, E5.tab hT, B3.mono (e4.trans e5), by omega, PF.at_.mono (e4.trans e5), WA.mono e5, D, fun l1 H6 ps1 e6 B6 hps1 R1 => ?_⟩
          have E6 := E5.trans e6
          refine ⟨_, rfl, _, rfl, _, rfl, b, p, w2, U, _, rfl, E6.tab hT, B6, by omega, PF.at_.monoB ((e4.trans e5).b.trans e6), WA.monoB (e5.b.trans e6), D, fun l2 H7 ps2 e7 B7 hps2 R2 => ?_⟩
          have E7 := E6.trans e7
          have R1' := R1.monoB e7
          have R0' := hR.monoB (e6.trans e7)
          have eqx : ∀ ps', PsOk U ps' → (U.regs.filter fun pr => !U.ndl ps' pr) = U.regs.filter fun pr => !U.ndl ps pr := fun ps' h' => List.filter_congr fun pr hp => by rw [Tb.ndl_ps okU D.b.cls h' hps hp]
          rw [eqx ps1 hps1] at R1'
          rw [eqx ps2 hps2] at R2
          have hnm : ∀ pr ∈ U.regs.filter (fun pr => !U.ndl ps pr), pr.1 ∈ Tb.NAMES ∧ pr.2 ∈ Tb.NAMES := fun pr hpr => okU.regs_nm (List.mem_filter.mp hpr).1
          generalize (U.regs.filter fun pr => !U.ndl ps pr) = L at R0' R1' R2 hnm
          refine ⟨(by decide : 2 ≤ sizeLine), fun q1 hq1 => ⟨_, rfl, _, rfl, (by decide : 2 ≤ sizeLine), fun q2 hq2 => ?_⟩⟩
          have f1 := Le.new (o := .lst [V.ref l1, V.ref l2]) hq1
          have f2 := Le.new (o := .lst [V.ref due, V.ref due]) hq2
          have f12 := f1.trans f2
          have dl : ∀ {H' : Hp} {x : Addr}, RegsAt H' x L → Dp K H' (V.ref x) (.list (L.map dP)) := fun ⟨rs, g1, g2⟩ => .lst (SqL.of g1) (dpAll_P g2)
          refine ⟨.list [.list (L.map dP), .list (L.map dP)], .list [.list (L.map dP), .list (L.map dP)], .lst (SqL.of (f2.at upd_same)) (.cons (dl (R1'.mono f12)) (.cons (dl (R2.mono f12)) .nil)), .lst (SqL.of upd_same) (.cons (dl (R0'.mono f12)) (.cons (dl (R0'.mono f12)) .nil)), shaped_2 hnm, shaped_2 hnm, _, rfl, ?_⟩
          rw [SeqAt.eqv_refl _ (SeqAt.canLay_of_shaped (shaped_2 hnm))]
          refine iteF ⟨_, _, _, _, _, rfl, (E7.trans f12.b), (B7.mono f12).lt (by omega)⟩
        · rintro σ Hc ⟨v1, v3, v4, v5, v6, rfl, e2, B2⟩
          exact ⟨_, _, _, _, _, _, rfl, e2⟩
      · rintro σ Hc ⟨v1, v2, v3, v4, v5, v6, rfl, e⟩
        exact k Hc

end
end Sw
set_option linter.all false
set_option maxRecDepth 100000
set_option maxHeartbeats 4000000
/-! All walks put together. Printed by gen_end.py. -/
namespace Sw
open PySem PySem.Spec PyProof.Rows L2 LamX
theorem law_fn {P : Program} {w : World} {K : PySem.W.Frag} {mg : Str → Option Value} (T : Tx K mg) {fd : FuncData} (F : FunD K d_law.name d_law.qual d_law.params d_law.body d_law.scope [] d_law.kws d_law.f fd) {base : Heap} (TB : ∀ p ∈ tbL, TabB base mg p.1 p.2) : FnOk P w K mg base CX0 13 d_law.f fd ["_law_script"] (spLaw K) := by
  have c_hook_answer := ok_hook_answer (P := P) (w := w) (base := base) T 
  have c_is_sworn := ok_is_sworn (P := P) (w := w) (base := base) T 
  have c_hook_for := ok_hook_for (P := P) (w := w) (base := base) T 
  have c_answer_by_hook := ok_answer_by_hook (P := P) (w := w) (base := base) T c_is_sworn c_hook_for c_hook_answer
  have c_subclasses := ok_subclasses (P := P) (w := w) (base := base) T 
  have c_Table_sworn := ok_Table_sworn (P := P) (w := w) (base := base) T c_is_sworn
  have c_Table_below := ok_Table_below (P := P) (w := w) (base := base) T c_subclasses
  have c_Table_answer_for := ok_Table_answer_for (P := P) (w := w) (base := base) T c_answer_by_hook
  have c_Table_is_above := ok_Table_is_above (P := P) (w := w) (base := base) T 
  have c_Table_has := ok_Table_has (P := P) (w := w) (base := base) T 
  have c_Table_all_names := ok_Table_all_names (P := P) (w := w) (base := base) T 
  have c_Table_next_of := ok_Table_next_of (P := P) (w := w) (base := base) T c_Table_sworn c_Table_below
  have c_held_by := ok_held_by (P := P) (w := w) (base := base) T 
  have c_declines := ok_declines (P := P) (w := w) (base := base) T c_Table_sworn c_Table_answer_for
  have c_next_in := ok_next_in (P := P) (w := w) (base := base) T c_Table_next_of
  have c_led_to := ok_led_to (P := P) (w := w) (base := base) T c_declines c_next_in TB
  have c_has_road := ok_has_road (P := P) (w := w) (base := base) T c_Table_sworn c_next_in TB
  have c_is_reached := ok_is_reached (P := P) (w := w) (base := base) T c_declines c_Table_sworn c_Table_is_above
  have c_outcome_in := ok_outcome_in (P := P) (w := w) (base := base) T c_declines c_led_to c_is_reached c_Table_sworn c_Table_answer_for
  have c_state_of := ok_state_of (P := P) (w := w) (base := base) T c_held_by c_outcome_in c_has_road
  have c_Table := ok_Table_init (P := P) (w := w) (base := base) T 
  have c_Table_remove_registration := ok_Table_remove_registration (P := P) (w := w) (base := base) T 
  have c_Table_registrations := ok_Table_registrations (P := P) (w := w) (base := base) T 
  have c_Table_copied := ok_Table_copied (P := P) (w := w) (base := base) T c_Table
  have c_is_needless_in := ok_is_needless_in (P := P) (w := w) (base := base) T c_Table_copied c_Table_remove_registration c_state_of
  have c_World_names := ok_World_names (P := P) (w := w) (base := base) T 
  have c_World_class_picture := ok_World_class_picture (P := P) (w := w) (base := base) T c_Table_sworn
  have c_look_same := ok_look_same (P := P) (w := w) (base := base) T c_World_names c_World_class_picture
  have c_Cache := ok_Cache_init (P := P) (w := w) (base := base) T 
  have c_Cache_refresh := ok_Cache_refresh (P := P) (w := w) (base := base) T 
  have c_World_refresh := ok_World_refresh (P := P) (w := w) (base := base) T c_Cache_refresh
  have c_Table_add_registration := ok_Table_add_registration (P := P) (w := w) (base := base) T 
  have c_Table_shortest_road := ok_Table_shortest_road (P := P) (w := w) (base := base) T c_Table_next_of
  have c_Table_ring_by := ok_Table_ring_by (P := P) (w := w) (base := base) T c_Table_shortest_road
  have c_World_look := ok_World_look (P := P) (w := w) (base := base) T c_Table_has
  have c_World_look_registration := ok_World_look_registration (P := P) (w := w) (base := base) T c_World_look c_Table_sworn c_Table_ring_by
  have c_World_admit := ok_World_admit (P := P) (w := w) (base := base) T c_World_look_registration c_Table_add_registration c_World_refresh
  have c_is_name := ok_is_name (P := P) (w := w) (base := base) T 
  have c_is_mark := ok_is_mark (P := P) (w := w) (base := base) T 
  have c_look_marks := ok_look_marks (P := P) (w := w) (base := base) T c_is_name c_is_mark
  have c_can_be_first := ok_can_be_first (P := P) (w := w) (base := base) T 
  have c_Entry := ok_Entry_init (P := P) (w := w) (base := base) T 
  have c_World := ok_World_init (P := P) (w := w) (base := base) T c_Table c_Cache
  have c_Table_add_class := ok_Table_add_class (P := P) (w := w) (base := base) T 
  have c_Lsworn := ok_Lsworn (P := P) (w := w) (base := base) T 
  have c_Lnext := ok_Lnext (P := P) (w := w) (base := base) T c_Lsworn
  have c_Lled := ok_Lled (P := P) (w := w) (base := base) T c_Lnext
  have c_Ladmits := ok_Ladmits (P := P) (w := w) (base := base) T c_Lsworn c_Lled
  have c_Lbag := ok_Lbag (P := P) (w := w) (base := base) T 
  have c_Ltake := ok_Ltake (P := P) (w := w) (base := base) T 
  have c_LtakeI : Cal P w K mg base "_law_take" 1 ["_law_bag_here", "_law_many"] spLTakeI := by rw [spLTakeI_eq]; exact c_Ltake
  have c_Lpick := ok_Lpick (P := P) (w := w) (base := base) T c_Ltake
  have c_LpickI : Cal P w K mg base "_law_pick" 2 ["_law_bag_here", "_law_some"] (spLPickI K) := by rw [spLPickI_eq]; exact c_Lpick
  have c_Llisted := ok_Llisted (P := P) (w := w) (base := base) T 
  have c_Ladmit := ok_Ladmit (P := P) (w := w) (base := base) T 
  have c_Lnew := ok_Lnew (P := P) (w := w) (base := base) T 
  have c_methods_in := ok_methods_in (P := P) (w := w) (base := base) T 
  have c_is_clause := ok_is_clause (P := P) (w := w) (base := base) T c_is_name
  have c_hook_fault := ok_hook_fault (P := P) (w := w) (base := base) T c_is_clause
  have c_look_hook := ok_look_hook (P := P) (w := w) (base := base) T c_hook_fault
  have c_look_bases := ok_look_bases (P := P) (w := w) (base := base) T c_Table_has
  have c_merged := ok_merged (P := P) (w := w) (base := base) T c_can_be_first
  have c_new_entry := ok_new_entry (P := P) (w := w) (base := base) T c_is_name c_Table_has c_look_bases c_look_marks c_look_hook c_is_sworn c_merged c_Entry
  have c_World_make := ok_World_make (P := P) (w := w) (base := base) T c_new_entry c_Table_add_class c_World_refresh
  have c_Lmerge := ok_Lmerge (P := P) (w := w) (base := base) T 
  have c_Lcopy := ok_Lcopy (P := P) (w := w) (base := base) T 
  have c_Lmake := ok_Lmake (P := P) (w := w) (base := base) T c_Lmerge c_Lsworn
  have c_Lnew_rule := ok_Lnew_rule (P := P) (w := w) (base := base) T c_LtakeI
  have c_Lclass := ok_Lclass (P := P) (w := w) (base := base) T c_LtakeI c_LpickI c_Lmake c_Lnew_rule
  have c_Lsome_admitted := ok_Lsome_admitted (P := P) (w := w) (base := base) T c_LpickI c_Ladmits c_Ladmit
  have c_Ldrawn := ok_Ldrawn (P := P) (w := w) (base := base) T c_LtakeI c_LpickI c_Lnew c_Lclass c_Lsome_admitted
  have c_Lmade_in := ok_Lmade_in (P := P) (w := w) (base := base) T c_World_make
  have c_Lmade := ok_Lmade (P := P) (w := w) (base := base) T c_World c_Lmade_in c_World_admit
  have c_Lwithout := ok_Lwithout (P := P) (w := w) (base := base) T c_Lcopy
  have c_patterns_in := ok_patterns_in (P := P) (w := w) (base := base) T c_methods_in
  have c_needless := ok_needless (P := P) (w := w) (base := base) T c_patterns_in c_Table_registrations c_is_needless_in
  have c_kernel := ok_kernel (P := P) (w := w) (base := base) T c_needless c_Table_registrations
  have c_first_difference := ok_first_difference (P := P) (w := w) (base := base) T c_patterns_in c_Table_all_names c_Table_sworn c_state_of
  have c_alike := ok_alike (P := P) (w := w) (base := base) T c_look_same c_first_difference
  have c_Lend := ok_Lend (P := P) (w := w) (base := base) T c_Lcopy c_needless c_Lmade c_alike c_Llisted c_LpickI c_Lwithout
  exact ok_law T F c_Lbag c_Ldrawn c_Lmade c_kernel c_Lend
end Sw
set_option linter.all false
set_option maxRecDepth 100000
set_option maxHeartbeats 4000000
/-! The end: the head, and the law's def. -/
namespace Sw
open PySem PySem.Spec PyProof.Rows L2 LamX
theorem law_at {l : PySem.W.OpenLaw} {n : Nat} (hn2 : n ≤ sizeLine) (w : World) {K : PySem.W.Frag} {mg : Str → Option Value} {fa : Addr} {h : Heap} (KX : K.In h) (G : h.Ns mainGlobals mg) (S : Says K) (B : Tbs K h) (hmg : mg "law" = some (.ref fa)) : LawAtS l w K CX0 13 n "_law_script" mg fa h := by
  have T : Tx K mg := ⟨S, h, KX, G⟩
  obtain ⟨fd, F⟩ := T.fn _ fi_law
  have e : fa = d_law.f := by
    have q := T.g_law
    rw [hmg] at q
    cases q
    rfl
  subst e
  refine ⟨fd, tbL, spLaw K, B.empty, B.out, fun p hp => PySem.W.codeHd_of_K KX (B.hd p hp), fun s u => ?_, fun H a ns hl _ hH hS => ?_, fun base _ _ TB => law_fn T F TB⟩
  · exact F.bindsA (ps := ["_law_script"]) (fun _ _ _ _ _ _ us hl => match us, hl with | [_], _ => rfl) s [u] rfl
  · refine ⟨a, ns, rfl, fun x hx => ?_, hS, Nat.le_trans hl hn2, fun _ => rfl⟩
    have hx2 : H x.1 = some (.tbl #[]) := by
      rcases List.mem_cons.mp hx with z | z
      · rw [z]; exact hH _ (List.mem_cons_self)
      · rw [List.mem_singleton.mp z]; exact hH _ (List.mem_cons_of_mem _ List.mem_cons_self)
    exact TabS.nil hx2
end Sw
open PySem PySem.W PySem.Calls PyProof.Rows
theorem PySem.Challenge.cw_sworntypes_k76_whole_needless_ones_one_b_holds : PySem.Challenge.rw_sworntypes_k76_whole_needless_ones_one_b.Holds := by
  w_on; o_law
  refine HandSHeadRun.head_any (r := OpenLaw.row PySem.Challenge.rw_sworntypes_k76_whole_needless_ones_one_b) (q := view (OpenLaw.row PySem.Challenge.rw_sworntypes_k76_whole_needless_ones_one_b).prog [97]) (H := Sw.hk) (ob := Sw.ob) (M := 9000) (loose := Sw.loose) (d := HandSHeadRun.topDef (OpenLaw.row PySem.Challenge.rw_sworntypes_k76_whole_needless_ones_one_b).prog 97) (kwd := []) Sw.ob_eq
    (by kernel_rfl) (fun s => by kernel_rfl) Sw.run (by kernel_rfl) (by kernel_rfl) (by kernel_rfl) (by rfl) (by first | assumption | decide +kernel) (by decide +kernel) ⟨rfl, rfl, rfl, rfl, rfl, by decide +kernel⟩ ?hw ?hc
  case hw => w_witness2
  case hc =>
    refine LamX.walk_ofTsE (l := PySem.Challenge.rw_sworntypes_k76_whole_needless_ones_one_b) (n := 63) (k := 13) (x := "_law_script") (CX := fun _ => L2.CX0) rfl (by decide) (by kernel_rfl) ⟨rfl, by decide, by decide⟩ ?F (fun _ _ _ _ _ z => z)
    intro w mg fa h Y G hmg0
    obtain ⟨K, KX, S, B⟩ := Y
    have hmg : mg ("law" : PySem.Str) = some (.ref fa) := by
      have e : (HandSHeadRun.topDef (OpenLaw.row PySem.Challenge.rw_sworntypes_k76_whole_needless_ones_one_b).prog 97).name = ("law" : PySem.Str) := by kernel_rfl
      rw [← e]
      exact hmg0
    exact ⟨K, KX, Sw.law_at (by decide) w KX G S B hmg⟩
