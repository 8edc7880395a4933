import PyProof.Rows.All
import Wide.All
import OpenK.AllK
import Wide.FinOn
import PyProof.EqAt
import PyProof.EqKinds
import PyProof.TupleCall
import HandS.Base
import HandS.Call
import HandS.Ends
import HandS.Words
import HandS.Defaults
import KE.KStateDown
import HandS.ForMost
import HandS.Exc
import HandS.ExcInit
import HandS.ExcField
import HandS.Head0
import HandS.Head1
import HandS.Head2
import HandS.HeadEnd
import HandS.HeadHook1
import HandS.HeadHook2
import HandS.HeadHook3
import HandS.HeadHook4
import HandS.Lambda
import HandS.EndTab
import HandS.HeadWalk
import PyProof.DictFindH
import KE.KeyNested
import HandS.More
import HandS.Deep
import HandS.IsInst
import HandS.Walk
import HandS.DictComp
import HandS.Zip
import KE.GoesEnum
import HandS.TryOnly
import HandS.ExcOwn
import HandS.WordsExc
import HandS.Style
import HandS.Conv
import PySem.Challenge.RW_farfolder_k04_whole_keeping_and_closed_l
set_option Elab.async false
set_option linter.all false
set_option maxRecDepth 100000
set_option maxHeartbeats 4000000
namespace FF
open PySem PySem.Spec PyProof.Rows L2
/-! ### the text by places -/
abbrev Pg : Program := PySem.Challenge.pw_farfolder_k04_whole_keeping_and_closed_l
def topS (i : Nat) : Stmt := Pg.main.body.getD i (.Pass ⟨0, 0, 0, 0⟩)
abbrev FnP (K : PySem.W.Frag) (x : Str) (st : Stmt) (f : Addr) (fd : FuncData) : Prop := FunD K x x (defArgs st) (defBody st) (defScope st) [] [] f fd
abbrev FnM (K : PySem.W.Frag) (x q : Str) (st : Stmt) (f : Addr) (fd : FuncData) : Prop := FunD K x q (defArgs st) (defBody st) (defScope st) [] [] f fd
abbrev s_is_list : Stmt := topS 4
abbrev s_is_integer : Stmt := topS 5
abbrev s_is_number : Stmt := topS 6
abbrev s_is_name : Stmt := topS 7
abbrev s_is_word : Stmt := topS 8
abbrev s_as_word : Stmt := topS 9
abbrev s_are_names : Stmt := topS 10
abbrev s_each_once : Stmt := topS 11
abbrev s_BadMany__init__ : Stmt := inClass (topS 14) 0
abbrev s_BadRules__init__ : Stmt := inClass (topS 15) 0
abbrev s_BadStand__init__ : Stmt := inClass (topS 16) 0
abbrev s_BadStep__init__ : Stmt := inClass (topS 17) 0
abbrev s_is_stand : Stmt := topS 19
abbrev s_kept_step : Stmt := topS 20
abbrev s_checked_steps : Stmt := topS 21
abbrev s_checked_stands : Stmt := topS 22
abbrev s_Play__init__ : Stmt := inClass (topS 23) 0
abbrev s_Play__len__ : Stmt := inClass (topS 23) 5
abbrev s_checked_rules : Stmt := topS 25
abbrev s_can_be_done : Stmt := topS 26
abbrev s_steps_under : Stmt := topS 27
abbrev s_shortest_runs : Stmt := topS 28
abbrev s_break_run : Stmt := topS 30
abbrev s_keeps : Stmt := topS 31
abbrev s_still_safe : Stmt := topS 32
abbrev s_is_closed : Stmt := topS 33
abbrev s__law_start : Stmt := topS 35
abbrev s__law_draw : Stmt := topS 36
abbrev s__law_pick : Stmt := topS 37
abbrev s__law_mixed : Stmt := topS 38
abbrev s__law_same : Stmt := topS 39
abbrev s__law_word : Stmt := topS 40
abbrev s__law_steps : Stmt := topS 41
abbrev s__law_bad : Stmt := topS 42
abbrev s__law_table : Stmt := topS 43
abbrev s__law_next : Stmt := topS 44
abbrev s__law_levels : Stmt := topS 45
abbrev s__law_walk : Stmt := topS 46
abbrev s__law_rules : Stmt := topS 47
abbrev s__law_met : Stmt := topS 48
abbrev s__law_from : Stmt := topS 49
abbrev s__law_is_closed : Stmt := topS 50
abbrev s_law : Stmt := topS 51
end FF
set_option maxHeartbeats 0
namespace FF
open PySem PySem.Spec PyProof.Rows L2
/-! ### an own exception's class, by a Bool -/
def oexB (K : PySem.W.Frag) (C : Addr) : Bool := (match K.lookup C with
  | some ⟨.type c, _, .cls cd, sl⟩ => (match cd.mro, sl.toList with
    | .ref C' :: bm, [_, _, _, _, some (.builtin n), _] => decide (c = "type") && (C' == C && (decide (n = "ValueError.__new__") && (!cd.hasDel && (cd.hasDict && PySem.HandSPX.refsVE bm))))
    | _, _ => false)
  | _ => false) && (decide (PySem.W.findIn K (.ref C) "__setattr__" = some (some (.builtin "object.__setattr__"))) && (decide (PySem.W.subIn K (.ref C) (.type "BaseException") = some true) &&
    (decide (PySem.W.typeIn K (.ref C) = some (.type "type")) && PySem.W.keepIn K (.ref C))))
theorem oexB_ok {K : PySem.W.Frag} {C : Addr} (h : oexB K C = true) : OexC K C := by
  unfold oexB at h
  obtain ⟨h0, h1⟩ := He.ba h
  obtain ⟨h2, h3⟩ := He.ba h1
  obtain ⟨h4, h5⟩ := He.ba h3
  obtain ⟨h6, h7⟩ := He.ba h5
  refine ⟨?_, of_decide_eq_true h2, of_decide_eq_true h4, of_decide_eq_true h6, h7⟩
  split at h0
  · rename_i c dd cd sl ho
    split at h0
    · rename_i C' bm k0 k1 k2 k3 n k5 hm hs
      simp only [Bool.and_eq_true, beq_iff_eq, Bool.not_eq_true', decide_eq_true_eq] at h0
      obtain ⟨rfl, rfl, rfl, hdel, hdc, ht⟩ := h0
      obtain ⟨nm, bs, mro, ns, qn, hd, sn, sub, ab, col, del⟩ := cd
      dsimp only at hm hdel hdc
      subst hm hdel hdc
      have hsl : sl = #[k0, k1, k2, k3, some (.builtin "ValueError.__new__"), k5] := by
        obtain ⟨l⟩ := sl
        simp only at hs
        rw [hs]
      subst hsl
      exact ⟨nm, qn, ns, bs, bm, sn, sub, ab, col, dd, k0, k1, k2, k3, k5, ho, ht⟩
    · cases h0
  · cases h0
/-! ### the head: facts by names, the run -/
def d_is_list : He.DefD := ⟨("is_list", none), "is_list", "is_list", defArgs s_is_list, defBody s_is_list, defScope s_is_list, [], []⟩
def d_is_integer : He.DefD := ⟨("is_integer", none), "is_integer", "is_integer", defArgs s_is_integer, defBody s_is_integer, defScope s_is_integer, [], []⟩
def d_is_number : He.DefD := ⟨("is_number", none), "is_number", "is_number", defArgs s_is_number, defBody s_is_number, defScope s_is_number, [], []⟩
def d_is_name : He.DefD := ⟨("is_name", none), "is_name", "is_name", defArgs s_is_name, defBody s_is_name, defScope s_is_name, [], []⟩
def d_is_word : He.DefD := ⟨("is_word", none), "is_word", "is_word", defArgs s_is_word, defBody s_is_word, defScope s_is_word, [], []⟩
def d_as_word : He.DefD := ⟨("as_word", none), "as_word", "as_word", defArgs s_as_word, defBody s_as_word, defScope s_as_word, [], []⟩
def d_are_names : He.DefD := ⟨("are_names", none), "are_names", "are_names", defArgs s_are_names, defBody s_are_names, defScope s_are_names, [], []⟩
def d_each_once : He.DefD := ⟨("each_once", none), "each_once", "each_once", defArgs s_each_once, defBody s_each_once, defScope s_each_once, [], []⟩
def d_BadRules__init__ : He.DefD := ⟨("BadRules", some "__init__"), "__init__", "BadRules.__init__", defArgs s_BadRules__init__, defBody s_BadRules__init__, defScope s_BadRules__init__, [], []⟩
def d_is_stand : He.DefD := ⟨("is_stand", none), "is_stand", "is_stand", defArgs s_is_stand, defBody s_is_stand, defScope s_is_stand, [], []⟩
def d_kept_step : He.DefD := ⟨("kept_step", none), "kept_step", "kept_step", defArgs s_kept_step, defBody s_kept_step, defScope s_kept_step, [], []⟩
def d_checked_steps : He.DefD := ⟨("checked_steps", none), "checked_steps", "checked_steps", defArgs s_checked_steps, defBody s_checked_steps, defScope s_checked_steps, [], []⟩
def d_checked_stands : He.DefD := ⟨("checked_stands", none), "checked_stands", "checked_stands", defArgs s_checked_stands, defBody s_checked_stands, defScope s_checked_stands, [], []⟩
def d_Play__init__ : He.DefD := ⟨("Play", some "__init__"), "__init__", "Play.__init__", defArgs s_Play__init__, defBody s_Play__init__, defScope s_Play__init__, [], []⟩
def d_Play__len__ : He.DefD := ⟨("Play", some "__len__"), "__len__", "Play.__len__", defArgs s_Play__len__, defBody s_Play__len__, defScope s_Play__len__, [], []⟩
def d_checked_rules : He.DefD := ⟨("checked_rules", none), "checked_rules", "checked_rules", defArgs s_checked_rules, defBody s_checked_rules, defScope s_checked_rules, [], []⟩
def d_can_be_done : He.DefD := ⟨("can_be_done", none), "can_be_done", "can_be_done", defArgs s_can_be_done, defBody s_can_be_done, defScope s_can_be_done, [], []⟩
def d_steps_under : He.DefD := ⟨("steps_under", none), "steps_under", "steps_under", defArgs s_steps_under, defBody s_steps_under, defScope s_steps_under, [], []⟩
def d_shortest_runs : He.DefD := ⟨("shortest_runs", none), "shortest_runs", "shortest_runs", defArgs s_shortest_runs, defBody s_shortest_runs, defScope s_shortest_runs, [], []⟩
def d_break_run : He.DefD := ⟨("break_run", none), "break_run", "break_run", defArgs s_break_run, defBody s_break_run, defScope s_break_run, [], []⟩
def d_keeps : He.DefD := ⟨("keeps", none), "keeps", "keeps", defArgs s_keeps, defBody s_keeps, defScope s_keeps, [], []⟩
def d_still_safe : He.DefD := ⟨("still_safe", none), "still_safe", "still_safe", defArgs s_still_safe, defBody s_still_safe, defScope s_still_safe, [], []⟩
def d_is_closed : He.DefD := ⟨("is_closed", none), "is_closed", "is_closed", defArgs s_is_closed, defBody s_is_closed, defScope s_is_closed, [], []⟩
def d__law_start : He.DefD := ⟨("_law_start", none), "_law_start", "_law_start", defArgs s__law_start, defBody s__law_start, defScope s__law_start, [], []⟩
def d__law_draw : He.DefD := ⟨("_law_draw", none), "_law_draw", "_law_draw", defArgs s__law_draw, defBody s__law_draw, defScope s__law_draw, [], []⟩
def d__law_pick : He.DefD := ⟨("_law_pick", none), "_law_pick", "_law_pick", defArgs s__law_pick, defBody s__law_pick, defScope s__law_pick, [], []⟩
def d__law_mixed : He.DefD := ⟨("_law_mixed", none), "_law_mixed", "_law_mixed", defArgs s__law_mixed, defBody s__law_mixed, defScope s__law_mixed, [], []⟩
def d__law_same : He.DefD := ⟨("_law_same", none), "_law_same", "_law_same", defArgs s__law_same, defBody s__law_same, defScope s__law_same, [], []⟩
def d__law_word : He.DefD := ⟨("_law_word", none), "_law_word", "_law_word", defArgs s__law_word, defBody s__law_word, defScope s__law_word, [], []⟩
def d__law_steps : He.DefD := ⟨("_law_steps", none), "_law_steps", "_law_steps", defArgs s__law_steps, defBody s__law_steps, defScope s__law_steps, [], []⟩
def d__law_bad : He.DefD := ⟨("_law_bad", none), "_law_bad", "_law_bad", defArgs s__law_bad, defBody s__law_bad, defScope s__law_bad, [], []⟩
def d__law_table : He.DefD := ⟨("_law_table", none), "_law_table", "_law_table", defArgs s__law_table, defBody s__law_table, defScope s__law_table, [], []⟩
def d__law_next : He.DefD := ⟨("_law_next", none), "_law_next", "_law_next", defArgs s__law_next, defBody s__law_next, defScope s__law_next, [], []⟩
def d__law_levels : He.DefD := ⟨("_law_levels", none), "_law_levels", "_law_levels", defArgs s__law_levels, defBody s__law_levels, defScope s__law_levels, [], []⟩
def d__law_walk : He.DefD := ⟨("_law_walk", none), "_law_walk", "_law_walk", defArgs s__law_walk, defBody s__law_walk, defScope s__law_walk, [], []⟩
def d__law_rules : He.DefD := ⟨("_law_rules", none), "_law_rules", "_law_rules", defArgs s__law_rules, defBody s__law_rules, defScope s__law_rules, [], []⟩
def d__law_met : He.DefD := ⟨("_law_met", none), "_law_met", "_law_met", defArgs s__law_met, defBody s__law_met, defScope s__law_met, [], []⟩
def d__law_from : He.DefD := ⟨("_law_from", none), "_law_from", "_law_from", defArgs s__law_from, defBody s__law_from, defScope s__law_from, [], []⟩
def d__law_is_closed : He.DefD := ⟨("_law_is_closed", none), "_law_is_closed", "_law_is_closed", defArgs s__law_is_closed, defBody s__law_is_closed, defScope s__law_is_closed, [], []⟩
def d_law : He.DefD := ⟨("law", none), "law", "law", defArgs s_law, defBody s_law, defScope s_law, [], []⟩
def fn : List He.DefD := [d_is_list, d_is_integer, d_is_number, d_is_name, d_is_word, d_as_word, d_are_names, d_each_once, d_BadRules__init__, d_is_stand, d_kept_step, d_checked_steps, d_checked_stands, d_Play__init__, d_Play__len__, d_checked_rules, d_can_be_done, d_steps_under, d_shortest_runs, d_break_run, d_keeps, d_still_safe, d_is_closed, d__law_start, d__law_draw, d__law_pick, d__law_mixed, d__law_same, d__law_word, d__law_steps, d__law_bad, d__law_table, d__law_next, d__law_levels, d__law_walk, d__law_rules, d__law_met, d__law_from, d__law_is_closed, d_law]
def fa : List He.Fa := [.glo "is_list", .glo "is_integer", .glo "is_number", .glo "is_name", .glo "is_word", .glo "as_word", .glo "are_names", .glo "each_once", .glo "is_stand", .glo "kept_step", .glo "checked_steps", .glo "checked_stands", .glo "checked_rules", .glo "can_be_done", .glo "steps_under", .glo "shortest_runs", .glo "break_run", .glo "keeps", .glo "still_safe", .glo "is_closed", .glo "_law_start", .glo "_law_draw", .glo "_law_pick", .glo "_law_mixed", .glo "_law_same", .glo "_law_word", .glo "_law_steps", .glo "_law_bad", .glo "_law_table", .glo "_law_next", .glo "_law_levels", .glo "_law_walk", .glo "_law_rules", .glo "_law_met", .glo "_law_from", .glo "_law_is_closed", .glo "law", .glo "Play", .glo "BadRules", .cls "Play", .noat "Play" "own_table", .noat "Play" "own_bad", .meth "Play" "__len__", .mkr "Play", .exm "BadRules" "BadRules" true, .keep "BadRules", .noat "BadRules" "index", .str "SMALL" "abcdefghijklmnopqrstuvwxyz", .str "FIGURES" "0123456789", .free "len", .free "isinstance", .free "list", .free "tuple", .free "int", .free "bool", .free "str", .free "dict", .free "all", .free "any", .free "sorted", .free "enumerate", .free "range", .free "zip", .free "min"]
def ex (K : PySem.W.Frag) : Bool := oexB K (He.ga K "BadRules") && (xfB K (He.ga K "BadRules") && (decide (PySem.W.findIn K (.ref (He.ga K "BadRules")) "__init__" = some (some (.ref (He.ma K (He.ga K "BadRules") "__init__")))) && decide (PySem.W.typeIn K (.ref (He.ma K (He.ga K "BadRules") "__init__")) = some (.type "function"))))
def tf : List He.Defn := [("law", none)]
abbrev R : PySem.W.OpenRow := PySem.W.OpenLaw.row PySem.Challenge.rw_farfolder_k04_whole_keeping_and_closed_l
abbrev hk : PySem.W.Hook := He.hookX 6 fa fn [] tf ex
def ob (s : PySem.W.SharedT) : He.AlX := He.obsX 6 fa fn [] tf ex (HandSHeadRun.getT s)
theorem ob_eq (s : PySem.W.SharedT) : ob s = hk.obs s.abs := He.obsX_eq (HandSHeadRun.getT_eq s)
def loose : List PySem.Str := (["_wall", "SMALL", "FIGURES", "is_list", "is_integer", "is_number", "is_name", "is_word", "as_word", "are_names", "each_once", "FarError", "BadMany", "BadRules", "BadStand", "BadStep", "is_stand", "kept_step", "checked_steps", "checked_stands"] : List PySem.Str) ++ (["Play", "checked_rules", "can_be_done", "steps_under", "shortest_runs", "break_run", "keeps", "still_safe", "is_closed", "_law_start", "_law_draw", "_law_pick", "_law_mixed", "_law_same", "_law_word", "_law_steps", "_law_bad", "_law_table", "_law_next", "_law_levels"] : List PySem.Str) ++ (["_law_walk", "_law_rules", "_law_met", "_law_from", "_law_is_closed"] : List PySem.Str)
theorem run (w : World) : HandSHeadRun.RunEq R (PySem.W.view R.prog [51]) hk ob 8000 loose w := by
  intro os
  kernel_rfl
end FF
set_option maxHeartbeats 4000000
/-! dicts whose keys are words: ints, texts, tuples of such, mixed in one dict -/
namespace FF
open PySem
/-- an entry: the key as a word, the key's own value, the value -/
abbrev Went := NestedKey × Value × Value
def wE (w : World) (x : Went) : DictEntry := ⟨x.1.hash w, x.2.1, x.2.2⟩
def wIx (xs : List Went) (k : NestedKey) : Option Nat := xs.findIdx? fun x => decide (x.1 = k)
def wVal (xs : List Went) (k : NestedKey) : Option Value := (wIx xs k).bind fun i => (xs[i]?).map (·.2.2)
def wPut (xs : List Went) (k : NestedKey) (kv v : Value) : List Went :=
  match wIx xs k with
  | some i => xs.modify i fun x => (x.1, x.2.1, v)
  | none => xs ++ [(k, kv, v)]
def KeysAt (h : Heap) (xs : List Went) : Prop := ∀ x ∈ xs, NestedIs h x.1 x.2.1 ∧ x.1.depth ≤ 8
/-- the object at d -/
def WDict (w : World) (h : Heap) (d : Addr) (xs : List Went) (ep : Nat) : Prop :=
  ∃ o es, h.get? d = some o ∧ o.ExactDict ∧ o.data = .dict es ep ∧ es.toList = xs.map (wE w) ∧ (xs.map (·.1)).Nodup
section
variable {prog : Program} {w : World} {A : Around} {E : Value → Shared → Prop} {s : Shared} {d : Addr} {xs : List Went} {k : NestedKey} {key : Value} {ep : Nat}
theorem wE_at {es : Array DictEntry} (he : es.toList = xs.map (wE w)) (j : Nat) : es[j]? = (xs[j]?).map (wE w) := by
  have q : es.toList[j]? = es[j]? := by simp
  rw [← q, he, List.getElem?_map]
theorem wE_size {es : Array DictEntry} (he : es.toList = xs.map (wE w)) : es.size = xs.length := by
  have q : es.toList.length = es.size := by simp
  rw [← q, he, List.length_map]
theorem wIx_some {j : Nat} {x : Went} (hn : (xs.map (·.1)).Nodup) (hj : xs[j]? = some x) (hk : x.1 = k) : wIx xs k = some j := by
  obtain ⟨hl, hx⟩ := List.getElem?_eq_some_iff.mp hj
  refine List.findIdx?_eq_some_iff_getElem.mpr ⟨hl, by rw [hx]; exact decide_eq_true hk, fun i hi => ?_⟩
  simp only [decide_eq_true_eq]
  intro e
  have h1 : (xs.map (·.1))[i]? = some k := by rw [List.getElem?_map, List.getElem?_eq_getElem (Nat.lt_trans hi hl)]; exact congrArg some e
  have h2 : (xs.map (·.1))[j]? = some k := by rw [List.getElem?_map, hj]; exact congrArg some hk
  have := (List.getElem?_inj (by simpa using Nat.lt_trans hi hl) hn).mp (h1.trans h2.symm)
  omega
theorem wIx_none (h : ∀ (j : Nat) (x : Went), xs[j]? = some x → x.1 ≠ k) : wIx xs k = none := by
  refine List.findIdx?_eq_none_iff.mpr fun x hx => ?_
  obtain ⟨j, hj⟩ := List.mem_iff_getElem?.mp hx
  exact decide_eq_false (h j x hj)
theorem wEqAt {A : Around} {s : Shared} {x y : NestedKey} {u v : Value} (hx : NestedIs s.heap x u) (hy : NestedIs s.heap y v) (dx : x.depth ≤ 8) (hu : A.units + 8 < cLine) : SeqAt.EqAt A s u v (decide (x = y)) := by
  rw [NestedKey.decide_eq]
  exact eqAt_key x y A s u v hx hy (by omega)
theorem wMay {stored : List Value} {Q : Bool → Shared → Prop} (hk : NestedIs s.heap k key) (hkd : k.depth ≤ 8) (hst : ∀ v ∈ stored, ∃ k', NestedIs s.heap k' v ∧ k'.depth ≤ 8) (h : Q false s) :
    wpAny (model prog w) A (tableMayTell key stored) Q E s := by
  unfold tableMayTell
  split
  · exact wpAny_pure h
  refine wpAny_bind (quiet_key k key 8 s hk hkd A E _ ?_)
  simp only [Bool.not_true, Bool.false_eq_true, if_false]
  refine wpAny_bind (wpAny_forIn_list _ (fun l b s' => s' = s ∧ b = (none, ()) ∧ ∀ v ∈ l, ∃ k', NestedIs s.heap k' v ∧ k'.depth ≤ 8) _ ?_ ?_ _ _ ⟨rfl, rfl, hst⟩)
  · rintro v l b s' ⟨rfl, rfl, hl⟩
    obtain ⟨k', q1, q2⟩ := hl v List.mem_cons_self
    refine wpAny_bind (quiet_key k' v 8 s' q1 q2 A E _ ?_)
    simp only [Bool.not_true, Bool.false_eq_true, if_false]
    exact wpAny_pure ⟨rfl, rfl, fun u hu => hl u (List.mem_cons_of_mem _ hu)⟩
  · rintro b s' ⟨rfl, rfl, _⟩
    exact wpAny_pure h
/-- the places of one hash, walked up to i -/
def Upto (w : World) (es : Array DictEntry) (xs : List Went) (k : NestedKey) (l : List Nat) (i : Nat) : Prop :=
  l = (List.range' i (es.size - i)).filter (fun j => (es[j]?.map (·.hash)) == some (k.hash w)) ∧ i ≤ es.size
theorem Upto.start (es : Array DictEntry) (xs : List Went) : Upto w es xs k (placesWithHash es.size (fun i => es[i]?.map (·.hash)) (k.hash w)) 0 :=
  ⟨by rw [placesWithHash, List.range_eq_range', Nat.sub_zero], Nat.zero_le _⟩
/-- none of the word ahead of i -/
def NoneTo (xs : List Went) (k : NestedKey) (i : Nat) : Prop := ∀ (j : Nat) (x : Went), j < i → xs[j]? = some x → x.1 ≠ k
theorem Upto.next {es : Array DictEntry} (he : es.toList = xs.map (wE w)) {x : Nat} {l : List Nat} {i : Nat} (u : Upto w es xs k (x :: l) i) :
    x < es.size ∧ i ≤ x ∧ (∀ j y, i ≤ j → j < x → xs[j]? = some y → y.1 ≠ k) ∧ Upto w es xs k l (x + 1) := by
  obtain ⟨u1, u2⟩ := u
  obtain ⟨h1, h2, _, h4, h5⟩ := filter_range'_cons _ _ _ _ _ u1.symm
  refine ⟨by omega, h1, fun j y hj hjx hy e => ?_, ?_, by omega⟩
  · have q := h4 j hj hjx
    rw [wE_at he j, hy] at q
    rw [← e] at q
    simp [wE] at q
  · rw [h5]
    congr 2
    omega
theorem Upto.done {es : Array DictEntry} (he : es.toList = xs.map (wE w)) {i : Nat} (u : Upto w es xs k [] i) : ∀ j y, i ≤ j → xs[j]? = some y → y.1 ≠ k := by
  obtain ⟨u1, u2⟩ := u
  intro j y hj hy e
  have hl : j < es.size := by rw [wE_size he]; exact (List.getElem?_eq_some_iff.mp hy).1
  have q := List.filter_eq_nil_iff.mp u1.symm j (List.mem_range'_1.mpr ⟨hj, by omega⟩)
  rw [wE_at he j, hy] at q
  rw [← e] at q
  simp [wE] at q
theorem wPlain {o : Obj} {es : Array DictEntry} {ep : Nat} {Q : Option Nat → Shared → Prop} (hu : A.units + 8 < cLine) (hk : NestedIs s.heap k key) (ho : s.heap.get? d = some o) (hd : o.data = .dict es ep)
    (he : es.toList = xs.map (wE w)) (his : KeysAt s.heap xs) (hn : (xs.map (·.1)).Nodup) (h : Q (wIx xs k) s) :
    wpAny (model prog w) A (dictWalkPlain d key (k.hash w) es (placesWithHash es.size (fun i => es[i]?.map (·.hash)) (k.hash w))) Q E s := by
  unfold dictWalkPlain
  refine wpAny_bind (wpAny_forIn_list _ (fun l b s' => s' = s ∧ b = (none, ()) ∧ ∃ i, Upto w es xs k l i ∧ NoneTo xs k i) _ ?_ ?_ _ _ ⟨rfl, rfl, 0, Upto.start es xs, fun _ _ z => absurd z (Nat.not_lt_zero _)⟩)
  · rintro x l b s' ⟨rfl, rfl, i, u, hno⟩
    obtain ⟨hlt, hix, hskip, un⟩ := u.next he
    obtain ⟨y, hy⟩ : ∃ y, xs[x]? = some y := ⟨_, List.getElem?_eq_getElem (by rw [← wE_size he]; exact hlt)⟩
    have hx : es[x]? = some (wE w y) := by rw [wE_at he x, hy]; rfl
    have hno2 : y.1 ≠ k → NoneTo xs k (x + 1) := fun ne j z hj hz => by
      rcases Nat.lt_or_ge j i with q | q
      · exact hno j z q hz
      · rcases Nat.lt_or_ge j x with q2 | q2
        · exact hskip j z q q2 hz
        · have e : j = x := by omega
          subst e
          rw [hy] at hz
          cases hz
          exact ne
    rw [hx]
    dsimp only
    by_cases hh : ((wE w y).hash == k.hash w) = true
    · rw [if_pos hh]
      obtain ⟨q1, q2⟩ := his y (List.mem_of_getElem? hy)
      refine wpAny_bind (wpAny_dictEpoch ho hd (wpAny_bind (wEqAt q1 hk q2 hu _ _ _ _ (wpAny_bind (wpAny_dictEpoch ho hd ?_)))))
      rw [if_neg (show ¬ ((ep != ep) = true) by simp)]
      by_cases e : y.1 = k
      · rw [decide_eq_true e]
        rw [wIx_some hn hy e] at h
        exact wpAny_bind (wpAny_rule (wpAny_pure (wpAny_pure h)))
      · rw [decide_eq_false e]
        exact wpAny_bind (wpAny_rule (wpAny_pure ⟨rfl, rfl, x + 1, un, hno2 e⟩))
    · rw [if_neg hh]
      refine wpAny_pure ⟨rfl, rfl, x + 1, un, hno2 fun e => hh ?_⟩
      show (y.1.hash w == k.hash w) = true
      rw [e]
      exact beq_self_eq_true _
  · rintro b s' ⟨rfl, rfl, i, u, hno⟩
    rw [wIx_none fun j x hj => (Nat.lt_or_ge j i).elim (fun q => hno j x q hj) fun q => u.done he j x q hj] at h
    exact wpAny_pure h
theorem wFind {o : Obj} {es : Array DictEntry} {ep : Nat} {Q : Option Nat → Shared → Prop} (hu : A.units + 8 < cLine) (hk : NestedIs s.heap k key) (hkd : k.depth ≤ 8) (ho : s.heap.get? d = some o) (hd : o.data = .dict es ep)
    (he : es.toList = xs.map (wE w)) (his : KeysAt s.heap xs) (hn : (xs.map (·.1)).Nodup) (h : Q (wIx xs k) s) : wpAny (model prog w) A (dictFind d key (k.hash w)) Q E s := by
  have hmem : ∀ e ∈ es, ∃ x ∈ xs, e = wE w x := fun e hin => by
    have q : e ∈ xs.map (wE w) := he ▸ Array.mem_toList_iff.mpr hin
    obtain ⟨x, hx, rfl⟩ := List.mem_map.mp q
    exact ⟨x, hx, rfl⟩
  have hst : ∀ v ∈ (placesWithHash es.size (fun i => es[i]?.map (·.hash)) (k.hash w)).filterMap (fun i => es[i]?.map (·.key)), ∃ k', NestedIs s.heap k' v ∧ k'.depth ≤ 8 := fun v hv => by
    obtain ⟨i, _, hi⟩ := List.mem_filterMap.mp hv
    obtain ⟨e, q, rfl⟩ := Option.map_eq_some_iff.mp hi
    obtain ⟨x, hx, rfl⟩ := hmem e (Array.mem_of_getElem? q)
    exact ⟨x.1, his x hx⟩
  have hany : ¬ (es.any fun e => e.key == key && e.hash != k.hash w) = true := by
    intro hc
    rw [← Array.any_toList, List.any_eq_true] at hc
    obtain ⟨e, hin, hc⟩ := hc
    obtain ⟨x, hx, rfl⟩ := hmem e (Array.mem_toList_iff.mp hin)
    have hc' : (x.2.1 == key && x.1.hash w != k.hash w) = true := hc
    simp only [Bool.and_eq_true, beq_iff_eq, bne_iff_ne, ne_eq] at hc'
    have q := (his x hx).1
    rw [hc'.1] at q
    exact hc'.2 (by rw [NestedIs.inj _ _ _ q hk])
  unfold dictFind
  try with_reducible refine wpAny_holding ?_
  refine wpAny_bind (wpAny_dictEntries ho hd ?_)
  dsimp only
  by_cases hall : ((key :: (placesWithHash es.size (fun i => es[i]?.map (·.hash)) (k.hash w)).filterMap (fun i => es[i]?.map (·.key))).all carriedByValue) = true
  · rw [if_pos hall]
    have old := wPlain (prog := prog) (E := E) hu hk ho hd he his hn h
    split
    · rename_i x t
      split
      · rename_i hs
        cases hk with
        | text y t' =>
          have hp : ∀ y ∈ xs, (wE w y).key.isStr x = decide (y.1 = .text x) := fun y hy => by
            have q1 := (his y hy).1
            have q2 : isExactStrKey y.2.1 = true := Array.all_eq_true_iff_forall_mem.mp hs (wE w y) (by
              obtain ⟨j, hj⟩ := List.mem_iff_getElem?.mp hy
              exact Array.mem_of_getElem? (i := j) (by rw [wE_at he j, hj]; rfl))
            show (y.2.1).isStr x = _
            generalize y.2.1 = yv at q1 q2
            generalize y.1 = yk at q1
            cases q1 with
            | text z tz =>
              by_cases ez : z = x
              · subst ez
                rw [decide_eq_true rfl]
                simp [Value.isStr]
              · rw [decide_eq_false fun q => ez (NestedKey.text.inj q)]
                simp [Value.isStr, ez]
            | _ => cases q2
          unfold foundByValue
          cases hf : es.findIdx? (fun e => e.key.isStr x) with
          | none =>
            rw [wIx_none fun j y hj e => ?_] at h
            · exact wpAny_pure h
            · have hin : wE w y ∈ es := Array.mem_of_getElem? (i := j) (by rw [wE_at he j, hj]; rfl)
              have q := Array.findIdx?_eq_none_iff.mp hf _ hin
              rw [hp y (List.mem_of_getElem? hj), decide_eq_true e] at q
              cases q
          | some i =>
            obtain ⟨hlt, hi, _⟩ := Array.findIdx?_eq_some_iff_getElem.mp hf
            obtain ⟨y, hy⟩ : ∃ y, xs[i]? = some y := ⟨_, List.getElem?_eq_getElem (by rw [← wE_size he]; exact hlt)⟩
            have hx : es[i]? = some (wE w y) := by rw [wE_at he i, hy]; rfl
            have hx' : es[i] = wE w y := by rw [Array.getElem?_eq_getElem hlt] at hx; exact Option.some.inj hx
            have hym := List.mem_of_getElem? hy
            rw [hx', hp y hym] at hi
            have ek : y.1 = .text x := of_decide_eq_true hi
            obtain ⟨q1, q2⟩ := his y hym
            dsimp only
            rw [hx]
            dsimp only
            refine wpAny_bind (wpAny_dictEpoch ho hd (wpAny_bind (wEqAt q1 (NestedIs.text x t) q2 hu _ _ _ _ (wpAny_bind (wpAny_dictEpoch ho hd ?_)))))
            rw [if_neg (show ¬ ((ep != ep) = true) by simp), decide_eq_true ek]
            rw [wIx_some hn hy ek] at h
            exact wpAny_bind (wpAny_rule (wpAny_pure h))
      · exact old
    · exact old
  · rw [if_neg hall, if_neg hany]
    have notstr : ∀ x t, key = .str x t → ¬ (es.all fun e => isExactStrKey e.key) = true := fun x t ek hs => hall (by
      rw [List.all_eq_true]
      intro v hv
      rcases List.mem_cons.mp hv with rfl | hv
      · rw [ek]; rfl
      · obtain ⟨i, _, hi⟩ := List.mem_filterMap.mp hv
        obtain ⟨e, q, e2⟩ := Option.map_eq_some_iff.mp hi
        subst e2
        have q2 : isExactStrKey e.key = true := Array.all_eq_true_iff_forall_mem.mp hs e (Array.mem_of_getElem? q)
        revert q2
        cases e.key <;> intro q2 <;> first | rfl | cases q2)
    by_cases hone : (((placesWithHash es.size (fun i => es[i]?.map (·.hash)) (k.hash w)).filterMap (fun i => es[i]?.map (·.key))) == [key]) = true <;>
    cases key <;> dsimp only <;> (try rw [if_neg (notstr _ _ rfl)]) <;> (first | rw [if_pos hone] | rw [if_neg hone]) <;>
      (first | refine wpAny_bind (wpAny_pure ?_) | refine wpAny_bind (wMay hk hkd hst ?_)) <;>
      (rw [if_neg (by simp)]
       refine wpAny_bind (wpAny_forIn_list _ (fun l b s' => s' = s ∧ ∃ i hit, b = (none, hit) ∧ Upto w es xs k l i ∧ ((hit = none ∧ NoneTo xs k i) ∨ ∃ j, hit = some j ∧ j < i ∧ wIx xs k = some j)) _ ?_ ?_ _ _
         ⟨rfl, 0, none, rfl, Upto.start es xs, .inl ⟨rfl, fun _ _ z => absurd z (Nat.not_lt_zero _)⟩⟩)
       · rintro x l b s' ⟨rfl, i, hit, rfl, u, hb⟩
         obtain ⟨hlt, hix, hskip, un⟩ := u.next he
         obtain ⟨y, hy⟩ : ∃ y, xs[x]? = some y := ⟨_, List.getElem?_eq_getElem (by rw [← wE_size he]; exact hlt)⟩
         have hx : es[x]? = some (wE w y) := by rw [wE_at he x, hy]; rfl
         obtain ⟨q1, q2⟩ := his y (List.mem_of_getElem? hy)
         have go : y.1 ≠ k → ((hit = none ∧ NoneTo xs k (x + 1)) ∨ ∃ j, hit = some j ∧ j < x + 1 ∧ wIx xs k = some j) := fun ne => by
           rcases hb with ⟨e, hno⟩ | ⟨j, e, hj, r⟩
           · refine .inl ⟨e, fun j z hj hz => ?_⟩
             rcases Nat.lt_or_ge j i with q | q
             · exact hno j z q hz
             · rcases Nat.lt_or_ge j x with q2 | q2
               · exact hskip j z q q2 hz
               · have e : j = x := by omega
                 subst e
                 rw [hy] at hz
                 cases hz
                 exact ne
           · exact .inr ⟨j, e, by omega, r⟩
         rw [hx]
         dsimp only
         by_cases hh : ((wE w y).hash == k.hash w) = true
         · rw [if_pos hh]
           refine wpAny_bind (wpAny_dictEpoch ho hd (wpAny_bind (wEqAt q1 hk q2 hu _ _ _ _ (wpAny_bind (wpAny_dictEpoch ho hd ?_)))))
           rw [if_neg (show ¬ ((ep != ep) = true) by simp)]
           by_cases e : y.1 = k
           · rw [decide_eq_true e, if_pos rfl]
             have hw := wIx_some hn hy e
             rcases hb with ⟨rfl, _⟩ | ⟨j, rfl, hj, hj2⟩
             · rw [if_neg (show ¬ ((none : Option Nat).isSome = true) by simp)]
               refine wpAny_bind (wpAny_rule ?_)
               by_cases hl : (((placesWithHash es.size (fun i => es[i]?.map (·.hash)) (k.hash w)).filterMap (fun i => es[i]?.map (·.key))).length < 2)
               · rw [if_pos hl]
                 rw [hw] at h
                 exact wpAny_pure (wpAny_pure h)
               · rw [if_neg hl]
                 exact wpAny_pure ⟨rfl, x + 1, some x, rfl, un, .inr ⟨x, rfl, Nat.lt_succ_self x, hw⟩⟩
             · rw [hj2] at hw
               exact absurd (Option.some.inj hw) (by omega)
           · rw [decide_eq_false e, if_neg (show ¬ (false = true) by simp)]
             refine wpAny_bind (wpAny_rule ?_)
             rw [if_neg (by simp)]
             exact wpAny_pure ⟨rfl, x + 1, hit, rfl, un, go e⟩
         · rw [if_neg hh]
           refine wpAny_pure ⟨rfl, x + 1, hit, rfl, un, go fun e => hh ?_⟩
           show (y.1.hash w == k.hash w) = true
           rw [e]
           exact beq_self_eq_true _
       · rintro b s' ⟨rfl, i, hit, rfl, u, hb⟩
         rcases hb with ⟨rfl, hno⟩ | ⟨j, rfl, _, hj⟩
         · rw [wIx_none fun j x hj => (Nat.lt_or_ge j i).elim (fun q => hno j x q hj) fun q => u.done he j x q hj] at h
           exact wpAny_pure h
         · rw [hj] at h
           exact wpAny_pure h)
theorem wGet {Q : Option Value → Shared → Prop} (hu : A.units + 8 < cLine) (hk : NestedIs s.heap k key) (hkd : k.depth ≤ 8) (hm : WDict w s.heap d xs ep) (his : KeysAt s.heap xs)
    (h : Q (wVal xs k) { s with toks := s.toks + k.draws }) : wpAny (model prog w) A (dictGet d key) Q E s := by
  obtain ⟨o, es, ho, _, hd, he, hn⟩ := hm
  unfold dictGet
  try with_reducible refine wpAny_holding ?_
  refine wpAny_bind (pyHash_key k key A s _ hk (by omega) (wpAny_bind (wFind (s := { s with toks := s.toks + k.draws }) hu hk hkd ho hd he his hn ?_)))
  unfold wVal at h
  cases hi : wIx xs k with
  | none =>
    rw [hi] at h
    exact wpAny_pure h
  | some i =>
    rw [hi] at h
    refine wpAny_bind (wpAny_dictEntries (s := { s with toks := s.toks + k.draws }) ho hd (wpAny_pure ?_))
    rw [wE_at he i, Option.map_map]
    exact h
theorem wPut_keys (xs : List Went) (k : NestedKey) (kv v : Value) : (wPut xs k kv v).map (·.1) = if (wIx xs k).isSome then xs.map (·.1) else xs.map (·.1) ++ [k] := by
  unfold wPut
  cases hi : wIx xs k with
  | none => simp
  | some i =>
    simp only [Option.isSome_some, if_true]
    apply List.ext_getElem?
    intro j
    rw [List.getElem?_map, List.getElem?_map, List.getElem?_modify]
    cases xs[j]? with
    | none => rfl
    | some x => by_cases e : i = j <;> simp [e]
theorem wIx_out {xs : List Went} {k : NestedKey} (h : wIx xs k = none) : k ∉ xs.map (·.1) := fun hm => by
  obtain ⟨x, hx, e⟩ := List.mem_map.mp hm
  have q := List.findIdx?_eq_none_iff.mp h x hx
  rw [decide_eq_true e] at q
  cases q
theorem wSet {v : Value} {Q : Unit → Shared → Prop} (hu : A.units + 8 < cLine) (hk : NestedIs s.heap k key) (hkd : k.depth ≤ 8) (hm : WDict w s.heap d xs ep) (his : KeysAt s.heap xs)
    (hQ : ∀ h', WDict w h' d (wPut xs k key v) (if (wIx xs k).isSome then ep else ep + 1) → Heap.SameBut d s.heap h' → Q () { s with heap := h', toks := s.toks + k.draws }) (hz : xs.length ≤ sizeLine) :
    wpAny (model prog w) A (dictSet d key v) Q E s := by
  obtain ⟨o, es, ho, hc, hd, he, hn⟩ := hm
  have hke := wPut_keys xs k key v
  unfold wPut at hQ hke
  unfold dictSet
  try with_reducible refine wpAny_holding ?_
  refine wpAny_bind (pyHash_key k key A s _ hk (by omega) ?_)
  unfold dictSetHashed
  try with_reducible refine wpAny_holding ?_
  refine wpAny_bind (wFind (s := { s with toks := s.toks + k.draws }) hu hk hkd ho hd he his hn ?_)
  cases hi : wIx xs k with
  | none =>
    rw [hi] at hQ hke
    have hin : (xs.map (·.1) ++ [k]).Nodup := by
      rw [List.nodup_append]
      refine ⟨hn, List.nodup_cons.mpr ⟨List.not_mem_nil, List.nodup_nil⟩, fun a ha b hb e => ?_⟩
      have e2 : b = k := by simpa using hb
      rw [e, e2] at ha
      exact wIx_out hi ha
    refine wpAny_bind (wpAny_rule (wpAny_updateDictKeys (hz := by have e := wE_size he; omega) (s := { s with toks := s.toks + k.draws }) ho hd (hQ _
      ⟨_, _, Heap.get?_update_self _ ho (Obj.isFreed_of_dict (Obj.data_mapDictKeys hd _)), hc.mapDictKeys _, Obj.data_mapDictKeys hd _, ?_, ?_⟩ (Heap.SameBut.update ..))))
    · simp [he, wE]
    · rw [hke]
      exact hin
  | some i =>
    rw [hi] at hQ hke
    refine wpAny_bind (wpAny_rule (wpAny_bind (wpAny_updateDict (s := { s with toks := s.toks + k.draws }) ho hd (wpAny_point (hQ _
      ⟨_, _, Heap.get?_update_self _ ho (Obj.isFreed_of_dict (Obj.data_mapDict hd _)), hc.mapDict _, Obj.data_mapDict hd _, ?_, ?_⟩ (Heap.SameBut.update ..))))))
    · apply List.ext_getElem?
      intro j
      rw [List.getElem?_map]
      dsimp only
      rw [List.getElem?_modify, Array.getElem?_toList, Array.getElem?_modify, wE_at he j]
      cases xs[j]? with
      | none => by_cases e : i = j <;> simp [e]
      | some x => by_cases e : i = j <;> simp [e, wE]
    · rw [hke]
      exact hn
theorem WDict.typeIs (hm : WDict w s.heap d xs ep) : s.TypeIs (.ref d) "dict" :=
  let ⟨o, _, ho, hc, _⟩ := hm
  ⟨o, ho, hc.1⟩
theorem wIn {Q : Value → Shared → Prop} (hu : A.units + 9 < cLine) (hk : NestedIs s.heap k key) (hkd : k.depth ≤ 8) (hm : WDict w s.heap d xs ep) (his : KeysAt s.heap xs) (hds : (d == sysModules) = false)
    (h : Q (.bool (wVal xs k).isSome) { s with toks := s.toks + k.draws }) : wpAny (model prog w) A (compareOp .In key (.ref d)) Q E s := by
  have hu1 : A.in1.units + 8 < cLine := by rw [Around.in1_units]; omega
  have hT : s.TypeIs (.ref d) "dict" := hm.typeIs
  show wpAny _ _ (do return .bool (← contains (.ref d) key)) Q E s
  refine wpAny_bind ?_
  unfold contains
  try (with_reducible refine wpAny_holding ?_)
  refine wpAny_bind (wpAny_specialOf hT slot_dict_contains.lookup ?_)
  show wpAny _ _ (if (some (Value.builtin "dict.__contains__") == some Value.none) = true then _ else _) _ E s
  rw [if_neg (show ¬ _ from by rw [beq_builtin_none]; exact Bool.false_ne_true)]
  refine wpAny_bind (wpAny_callSpecialUnlessNone?_slot (name := Str.ofString "__contains__") hT slot_dict_contains (wpAny_call_entry slot_dict_contains hT entry_dict_contains ?_ (args_dict_contains _ _)))
  show wpAny _ _ (dictGet d key >>= _) _ _ s
  refine wpAny_bind (wGet hu1 hk hkd hm his ?_)
  revert h
  cases wVal xs k with
  | some p => intro h; show wpAny _ _ (ret (.bool true)) _ _ _; exact wpAny_pure ⟨_, rfl, wpAny_truthy_bool (wpAny_pure h)⟩
  | none => intro h; show wpAny _ _ (Builtin.Dict.pendingKey? d key >>= _) _ _ _; exact wpAny_bind (wpAny_pendingKey_other hds (wpAny_pure ⟨_, rfl, wpAny_truthy_bool (wpAny_pure h)⟩))
theorem wNotIn {Q : Value → Shared → Prop} (hu : A.units + 9 < cLine) (hk : NestedIs s.heap k key) (hkd : k.depth ≤ 8) (hm : WDict w s.heap d xs ep) (his : KeysAt s.heap xs) (hds : (d == sysModules) = false)
    (h : Q (.bool (!(wVal xs k).isSome)) { s with toks := s.toks + k.draws }) : wpAny (model prog w) A (compareOp .NotIn key (.ref d)) Q E s := by
  have hu1 : A.in1.units + 8 < cLine := by rw [Around.in1_units]; omega
  have hT : s.TypeIs (.ref d) "dict" := hm.typeIs
  show wpAny _ _ (do return .bool (!(← contains (.ref d) key))) Q E s
  refine wpAny_bind ?_
  unfold contains
  try (with_reducible refine wpAny_holding ?_)
  refine wpAny_bind (wpAny_specialOf hT slot_dict_contains.lookup ?_)
  show wpAny _ _ (if (some (Value.builtin "dict.__contains__") == some Value.none) = true then _ else _) _ E s
  rw [if_neg (show ¬ _ from by rw [beq_builtin_none]; exact Bool.false_ne_true)]
  refine wpAny_bind (wpAny_callSpecialUnlessNone?_slot (name := Str.ofString "__contains__") hT slot_dict_contains (wpAny_call_entry slot_dict_contains hT entry_dict_contains ?_ (args_dict_contains _ _)))
  show wpAny _ _ (dictGet d key >>= _) _ _ s
  refine wpAny_bind (wGet hu1 hk hkd hm his ?_)
  revert h
  cases wVal xs k with
  | some p => intro h; show wpAny _ _ (ret (.bool true)) _ _ _; exact wpAny_pure ⟨_, rfl, wpAny_truthy_bool (wpAny_pure h)⟩
  | none => intro h; show wpAny _ _ (Builtin.Dict.pendingKey? d key >>= _) _ _ _; exact wpAny_bind (wpAny_pendingKey_other hds (wpAny_pure ⟨_, rfl, wpAny_truthy_bool (wpAny_pure h)⟩))
theorem wGetItem {v : Value} {Q : Value → Shared → Prop} (hu : A.units + 9 < cLine) (hk : NestedIs s.heap k key) (hkd : k.depth ≤ 8) (hm : WDict w s.heap d xs ep) (his : KeysAt s.heap xs) (hv : wVal xs k = some v)
    (h : Q v { s with toks := s.toks + k.draws }) : wpAny (model prog w) A (getItem (.ref d) key) Q E s := by
  have hu1 : A.in1.units + 8 < cLine := by rw [Around.in1_units]; omega
  have hT : s.TypeIs (.ref d) "dict" := hm.typeIs
  unfold getItem
  try (with_reducible refine wpAny_holding ?_)
  refine wpAny_bind (wpAny_sequenceKey hT (by decide) (wpAny_bind (wpAny_callSpecial?_slot (name := Str.ofString "__getitem__") hT slot_dict_getitem (wpAny_call_entry slot_dict_getitem hT entry_dict_getitem ?_ (args_dict_getitem _ _)))))
  show wpAny _ _ (dictGet d key >>= _) _ _ s
  refine wpAny_bind (wGet hu1 hk hkd hm his ?_)
  rw [hv]
  exact wpAny_pure ⟨v, rfl, wpAny_pure h⟩
theorem wSetItem {v : Value} {Q : Unit → Shared → Prop} (hu : A.units + 9 < cLine) (hk : NestedIs s.heap k key) (hkd : k.depth ≤ 8) (hm : WDict w s.heap d xs ep) (his : KeysAt s.heap xs) (hz : xs.length ≤ sizeLine)
    (hQ : ∀ h', WDict w h' d (wPut xs k key v) (if (wIx xs k).isSome then ep else ep + 1) → Heap.SameBut d s.heap h' → Q () { s with heap := h', toks := s.toks + k.draws }) : wpAny (model prog w) A (setItem (.ref d) key v) Q E s := by
  have hu1 : A.in1.units + 8 < cLine := by rw [Around.in1_units]; omega
  have hT : s.TypeIs (.ref d) "dict" := hm.typeIs
  unfold setItem
  try (with_reducible refine wpAny_holding ?_)
  refine wpAny_bind (wpAny_sequenceKey hT (by decide) (wpAny_bind (wpAny_callSpecial?_slot (name := Str.ofString "__setitem__") hT slot_dict_setitem (wpAny_call_entry slot_dict_setitem hT entry_dict_setitem ?_ (args_dict_setitem _ _ _)))))
  show wpAny _ _ (Builtin.Dict.notOrdered "__setitem__" ⟨[.ref d, key, v], []⟩ >>= _) _ _ s
  refine wpAny_bind (wpAny_notOrdered_dict hT ?_)
  show wpAny _ _ (dictSet d key v >>= _) _ _ s
  exact wpAny_bind (wSet hu1 hk hkd hm his (fun h' hm' hs' => wpAny_pure ⟨.none, rfl, wpAny_pure (hQ h' hm' hs')⟩) hz)
/-! ### the tables as lists -/
theorem wVal_nil {k : NestedKey} : wVal [] k = none := rfl
theorem wVal_at {xs : List Went} {k : NestedKey} {i : Nat} {x : Went} (hn : (xs.map (·.1)).Nodup) (hi : xs[i]? = some x) (e : x.1 = k) : wVal xs k = some x.2.2 := by
  unfold wVal
  rw [wIx_some hn hi e]
  show (xs[i]?).map _ = _
  rw [hi]
  rfl
theorem wVal_out {xs : List Went} {k : NestedKey} (h : k ∉ xs.map (·.1)) : wVal xs k = none := by
  unfold wVal
  rw [wIx_none fun j x hj e => h (List.mem_map.mpr ⟨x, List.mem_of_getElem? hj, e⟩)]
  rfl
theorem wPut_new {xs : List Went} {k : NestedKey} (kv v : Value) (h : k ∉ xs.map (·.1)) : wPut xs k kv v = xs ++ [(k, kv, v)] := by
  unfold wPut
  rw [wIx_none fun j x hj e => h (List.mem_map.mpr ⟨x, List.mem_of_getElem? hj, e⟩)]
end
end FF
/-! the layer's rules for dicts whose keys are words -/
namespace FF
open PySem PySem.Spec PyProof.Rows L2
/-- an entry of the layer: the word, its value, what stands there -/
abbrev Ent := NestedKey × V × V
abbrev Wrel : List Ent → List Went → Prop := Paired fun p q => p.1 = q.1 ∧ RelV p.2.1 q.2.1 ∧ RelV p.2.2 q.2.2
def WDo (w : World) (d : Addr) (es : List Ent) (ep : Nat) : HO := .ext fun h => es.length ≤ sizeLine ∧ (d == sysModules) = false ∧ ∃ xs, Wrel es xs ∧ WDict w h d xs ep
abbrev kvOf (es : List Ent) : List (NestedKey × V) := es.map fun e => (e.1, e.2.2)
/-- a value is the word k -/
abbrev WdAt (K : PySem.W.Frag) (H : Hp) (v : V) (k : NestedKey) : Prop := Dp K H v k.data ∧ k.depth ≤ 8
/-- at d a dict of words -/
def WD (K : PySem.W.Frag) (w : World) (H : Hp) (d : Addr) (es : List Ent) : Prop := (∃ ep, H d = some (WDo w d es ep)) ∧ ∀ e ∈ es, WdAt K H e.2.1 e.1
theorem Wrel.keys {es : List Ent} {xs : List Went} (r : Wrel es xs) : es.map (·.1) = xs.map (·.1) := by
  induction r with
  | nil => rfl
  | cons p _ ih => rw [List.map_cons, List.map_cons, ih, p.1]
theorem Wrel.get {es : List Ent} {xs : List Went} (r : Wrel es xs) : ∀ {i : Nat} {e : Ent}, es[i]? = some e → ∃ x, xs[i]? = some x ∧ e.1 = x.1 ∧ RelV e.2.1 x.2.1 ∧ RelV e.2.2 x.2.2 := fun {i e} h => paired_get r h
theorem Wrel.snoc {es : List Ent} {xs : List Went} (r : Wrel es xs) {e : Ent} {x : Went} (p : e.1 = x.1 ∧ RelV e.2.1 x.2.1 ∧ RelV e.2.2 x.2.2) : Wrel (es ++ [e]) (xs ++ [x]) := by
  induction r with
  | nil => exact .cons p .nil
  | cons q _ ih => exact .cons q ih
mutual
theorem word_is {X : Cx} {pins : List (Addr × Obj)} {σ : L2.St} {H : Hp} {s : Shared} (I : Inv X pins σ H s) : ∀ (k : NestedKey) (v : V) (u : Value), Dp X.K H v k.data → RelV v u → NestedIs s.heap k u
  | .none, _, _, h, r => by
    simp only [NestedKey.data] at h
    cases h
    cases (show _ = Value.none from r)
    exact .none
  | .num i, _, _, h, r => by
    simp only [NestedKey.data] at h
    cases h
    obtain ⟨t, rfl⟩ := r
    exact .int _ _
  | .text x, _, _, h, r => by
    simp only [NestedKey.data] at h
    cases h
    obtain ⟨t, rfl⟩ := r
    exact .text _ _
  | .tup ks, _, _, h, r => by
    simp only [NestedKey.data] at h
    cases h with
    | tup hs ha =>
      cases (show _ = Value.ref _ from r)
      obtain ⟨its, rv, ⟨o, ho, hc, n, hd⟩, _⟩ := I.tuple hs
      exact .tup ho hc hd (by simpa using words_are I ks _ _ ha rv)
theorem words_are {X : Cx} {pins : List (Addr × Obj)} {σ : L2.St} {H : Hp} {s : Shared} (I : Inv X pins σ H s) : ∀ (ks : List NestedKey) (vs : List V) (us : List Value), DpAll X.K H vs (NestedKey.datas ks) → Vals vs us → NestedAll s.heap ks us
  | [], _, _, h, r => by
    simp only [NestedKey.datas] at h
    cases h
    cases r
    exact .nil
  | k :: ks, _, _, h, r => by
    simp only [NestedKey.datas] at h
    cases h with
    | cons h1 h2 =>
      cases r with
      | cons r1 r2 => exact .cons (word_is I k _ _ h1 r1) (words_are I ks _ _ h2 r2)
end
section
variable {X : Cx} {pins : List (Addr × Obj)} {σ : L2.St} {H : Hp} {s : Shared} {d : Addr} {es : List Ent} {ep : Nat} {k : NestedKey} {A : Around} {E : Value → Shared → Prop}
theorem wd_raw (I : Inv X pins σ H s) (h : WD X.K X.w H d es) : es.length ≤ sizeLine ∧ (d == sysModules) = false ∧ ∃ xs ep, H d = some (WDo X.w d es ep) ∧ Wrel es xs ∧ WDict X.w s.heap d xs ep ∧ KeysAt s.heap xs := by
  obtain ⟨ep, hH⟩ := h.1
  obtain ⟨⟨h1, h2, xs, r, hd⟩, _⟩ := I.hok d _ hH
  refine ⟨h1, h2, xs, ep, hH, r, hd, fun x hx => ?_⟩
  obtain ⟨i, hi⟩ := List.mem_iff_getElem?.mp hx
  have hl : es.length = xs.length := Paired.length r
  obtain ⟨e, he⟩ : ∃ e, es[i]? = some e := ⟨_, List.getElem?_eq_getElem (by rw [hl]; exact (List.getElem?_eq_some_iff.mp hi).1)⟩
  obtain ⟨x', hx', e1, e2, e3⟩ := r.get he
  rw [hi] at hx'
  cases hx'
  obtain ⟨q1, q2⟩ := h.2 e (List.mem_of_getElem? he)
  rw [← e1]
  exact ⟨word_is I _ _ _ q1 e2, q2⟩
theorem wdo_ok {w : World} {P : Program} {H' : Hp} {h : Heap} {xs : List Went} (hz : es.length ≤ sizeLine) (hs : (d == sysModules) = false) (r : Wrel es xs) (hd : WDict w h d xs ep) : ObjOk P w H' h d (WDo w d es ep) := by
  refine ⟨⟨hz, hs, xs, r, hd⟩, ?_, fun h1 h2 ⟨a, b, ys, c, o, q1, q2, q4⟩ k => ⟨a, b, ys, c, o, q1, k _ q2, q4⟩⟩
  obtain ⟨o, _, ho, _⟩ := hd
  exact ⟨o, ho⟩
theorem wVal_cons (x : Went) (xs : List Went) (k : NestedKey) : wVal (x :: xs) k = if x.1 = k then some x.2.2 else wVal xs k := by
  unfold wVal wIx
  rw [List.findIdx?_cons]
  by_cases e : x.1 = k
  · rw [if_pos e, decide_eq_true e]
    rfl
  · rw [if_neg e, decide_eq_false e]
    cases List.findIdx? (fun x => decide (x.1 = k)) xs <;> rfl
/-- what stands under a word -/
theorem wval_of {es : List Ent} {xs : List Went} (r : Wrel es xs) (k : NestedKey) : RelO (valV (kvOf es) k) (wVal xs k) := by
  induction r with
  | nil => exact trivial
  | @cons e x es xs p r ih =>
    rw [wVal_cons, ← p.1]
    by_cases h : e.1 = k
    · rw [if_pos h, show kvOf (e :: es) = (e.1, e.2.2) :: kvOf es from rfl, valV_pos (p := (e.1, e.2.2)) h]
      exact p.2.2
    · rw [if_neg h, show kvOf (e :: es) = (e.1, e.2.2) :: kvOf es from rfl, valV_neg (p := (e.1, e.2.2)) h]
      exact ih
theorem valV_keys {kvs : List (NestedKey × V)} {k : NestedKey} (h : k ∉ kvs.map (·.1)) : valV kvs k = none := by
  cases e : valV kvs k with
  | none => rfl
  | some v => exact absurd (valV_in e) h
/-! ### by values -/
def rInW (K : PySem.W.Frag) (w : World) (neg : Bool) : R2 := fun y x H Q => ∃ d es k, x = .ref d ∧ WdAt K H y k ∧ WD K w H d es ∧ Q (.bl (if neg then !(valV (kvOf es) k).isSome else (valV (kvOf es) k).isSome)) H
theorem op_inW (hu : X.A.units + 9 < cLine) : OpR X (compareOp .In) (rInW X.K X.w false) := by
  intro pins s σ H y x u v Q I ry rx h
  obtain ⟨d, es, k, rfl, wk, wd, q⟩ := h
  cases (show v = Value.ref d from rx)
  obtain ⟨_, hs, xs, ep, _, r, hd, hk⟩ := wd_raw I wd
  refine wIn hu (word_is I _ _ _ wk.1 ry) wk.2 hd hk hs ⟨.bl _, H, I.tok _, ?_, q⟩
  show Value.bool _ = Value.bool _
  rw [← RelO.isSome_eq (wval_of r k)]
  rfl
theorem op_notInW (hu : X.A.units + 9 < cLine) : OpR X (compareOp .NotIn) (rInW X.K X.w true) := by
  intro pins s σ H y x u v Q I ry rx h
  obtain ⟨d, es, k, rfl, wk, wd, q⟩ := h
  cases (show v = Value.ref d from rx)
  obtain ⟨_, hs, xs, ep, _, r, hd, hk⟩ := wd_raw I wd
  refine wNotIn hu (word_is I _ _ _ wk.1 ry) wk.2 hd hk hs ⟨.bl _, H, I.tok _, ?_, q⟩
  show Value.bool _ = Value.bool _
  rw [← RelO.isSome_eq (wval_of r k)]
  rfl
/-- d[word] -/
def rIxW (K : PySem.W.Frag) (w : World) : R2 := fun x y H Q => ∃ d es k v, x = .ref d ∧ WdAt K H y k ∧ WD K w H d es ∧ valV (kvOf es) k = some v ∧ Q v H
theorem ix_W (hu : X.A.units + 9 < cLine) : IxR X (rIxW X.K X.w) := by
  intro value slice pins s σ H x y u v Q I rx ry h hs
  obtain ⟨d, es, k, z, rfl, wk, wd, hv, q⟩ := h
  cases (show u = Value.ref d from rx)
  obtain ⟨_, _, xs, ep, _, r, hd, hk⟩ := wd_raw I wd
  obtain ⟨z', hz', rz⟩ : ∃ z', wVal xs k = some z' ∧ RelV z z' := RelO.some_of (by rw [← hv]; exact wval_of r k)
  exact tail_any hd.typeIs slot_dict_getitem.lookup (wGetItem hu (word_is I _ _ _ wk.1 ry) wk.2 hd hk hz' ⟨z, H, I.tok _, rz, q⟩) hs
/-- d[word] = v, a word that is not there -/
def rSetW (K : PySem.W.Frag) (w : World) : V → V → V → Hp → (Hp → Prop) → Prop := fun o i v H Q => ∃ d es ep k, o = .ref d ∧ WdAt K H i k ∧ H d = some (WDo w d es ep) ∧ (∀ e ∈ es, WdAt K H e.2.1 e.1) ∧ k ∉ es.map (·.1) ∧ es.length < sizeLine ∧
  Q (upd H d (WDo w d (es ++ [(k, i, v)]) (ep + 1)))
theorem w_store {u r : Value} {i v : V} {Q : Unit → Shared → Prop} (hu : X.A.units + 9 < cLine) (I : Inv X pins σ H s) (wk : WdAt X.K H i k) (hd : H d = some (WDo X.w d es ep)) (hes : ∀ e ∈ es, WdAt X.K H e.2.1 e.1) (hn : k ∉ es.map (·.1)) (hl : es.length < sizeLine)
    (ri : RelV i u) (rv : RelV v r) (h : ∀ s', Inv X pins σ (upd H d (WDo X.w d (es ++ [(k, i, v)]) (ep + 1))) s' → Q () s') : wpAny (model X.prog X.w) X.A (setItem (.ref d) u r) Q X.xe s := by
  obtain ⟨hz, hs, xs, ep', hd', rw', hm, hk⟩ := wd_raw I ⟨⟨ep, hd⟩, hes⟩
  have eep : ep' = ep := by
    obtain ⟨⟨_, _, _, _, o1, _, q1, _, q2, _⟩, _⟩ := I.hok d _ hd
    obtain ⟨o2, _, p1, _, p2, _⟩ := hm
    rw [q1] at p1
    cases p1
    rw [q2] at p2
    cases p2
    rfl
  subst eep
  have nk : k ∉ xs.map (·.1) := by rw [← rw'.keys]; exact hn
  have hlx : es.length = xs.length := Paired.length rw'
  refine wSetItem hu (word_is I _ _ _ wk.1 ri) wk.2 hm hk (by omega) fun h' hm' sb => h _ ?_
  rw [wPut_new _ _ nk, show (wIx xs k).isSome = false by rw [wIx_none fun j x hj e => nk (List.mem_map.mpr ⟨x, List.mem_of_getElem? hj, e⟩)]; rfl] at hm'
  have he : ∃ q, h'.get? d = some q := let ⟨q, _, hq, _⟩ := hm'; ⟨q, hq⟩
  exact d_write I (by rw [hd]; exact True.intro) sb he (wdo_ok (by rw [List.length_append]; exact hl) hs (rw'.snoc ⟨rfl, ri, rv⟩) hm')
theorem w_storeC {u r : Value} {i v : V} {Q : Unit → Shared → Prop} (hu : X.A.units + 8 < cLine) (I : Inv X pins σ H s) (wk : WdAt X.K H i k) (hd : H d = some (WDo X.w d es ep)) (hes : ∀ e ∈ es, WdAt X.K H e.2.1 e.1) (hn : k ∉ es.map (·.1)) (hl : es.length < sizeLine)
    (ri : RelV i u) (rv : RelV v r) (h : ∀ s', Inv X pins σ (upd H d (WDo X.w d (es ++ [(k, i, v)]) (ep + 1))) s' → Q () s') : wpAny (model X.prog X.w) X.A (dictSet d u r) Q E s := by
  obtain ⟨hz, hs, xs, ep', hd', rw', hm, hk⟩ := wd_raw I ⟨⟨ep, hd⟩, hes⟩
  have eep : ep' = ep := by
    obtain ⟨⟨_, _, _, _, o1, _, q1, _, q2, _⟩, _⟩ := I.hok d _ hd
    obtain ⟨o2, _, p1, _, p2, _⟩ := hm
    rw [q1] at p1
    cases p1
    rw [q2] at p2
    cases p2
    rfl
  subst eep
  have nk : k ∉ xs.map (·.1) := by rw [← rw'.keys]; exact hn
  have hlx : es.length = xs.length := Paired.length rw'
  refine wSet hu (word_is I _ _ _ wk.1 ri) wk.2 hm hk (fun h' hm' sb => h _ ?_) (by omega)
  rw [wPut_new _ _ nk, show (wIx xs k).isSome = false by rw [wIx_none fun j x hj e => nk (List.mem_map.mpr ⟨x, List.mem_of_getElem? hj, e⟩)]; rfl] at hm'
  have he : ∃ q, h'.get? d = some q := let ⟨q, _, hq, _⟩ := hm'; ⟨q, hq⟩
  exact d_write I (by rw [hd]; exact True.intro) sb he (wdo_ok (by rw [List.length_append]; exact hl) hs (rw'.snoc ⟨rfl, ri, rv⟩) hm')
theorem set_W (hu : X.A.units + 9 < cLine) : PSet X (rSetW X.K X.w) := by
  intro pins s σ H o i v ov iv u Q I ro ri rv h
  obtain ⟨d, es, ep, k, rfl, wk, hd, hes, hn, hl, q⟩ := h
  cases (show ov = Value.ref d from ro)
  exact w_store hu I wk hd hes hn hl ri rv fun s' I' => ⟨_, I', q⟩
/-- {} -/
theorem wdo_empty {P : Program} {w : World} {H : Hp} (h : Heap) (hb : sysModules < h.objs.size) : ObjOk P w H (h.push { cls := .type "dict", data := .dict #[] }) h.objs.size (WDo w h.objs.size [] 0) :=
  wdo_ok (xs := []) (Nat.zero_le _) (by simpa using Nat.ne_of_gt hb) .nil ⟨_, #[], Heap.get?_push_size _ rfl, ⟨rfl, rfl, rfl⟩, rfl, rfl, List.nodup_nil⟩
def tDNewW (w : World) : TE := fun _ H Q => ∀ p, H p = none → Q (.ref p) (upd H p (WDo w p [] 0))
theorem pe_dnewW {pos : Pos} : PE X (.Dict [] [] pos) (tDNewW X.w) := by
  refine ⟨fun pins s σ H Q I h => wpAny_Dict_empty ⟨.ref s.heap.objs.size, upd H s.heap.objs.size (WDo X.w s.heap.objs.size [] 0), ?_, rfl, h _ (I.hok.fresh (Nat.le_refl _))⟩⟩
  exact I.laid (t' := s.toks) (fun _ _ q => Heap.get?_push_of_some _ q) (Nat.le_refl _) (wdo_empty s.heap I.big)
/-! ### the words of a dict that stands, in their order -/
def Itw (w : World) (d : Addr) (es : List Ent) (ep : Nat) : It :=
  ⟨fun i H => H d = some (WDo w d es ep) ∧ i < es.length, fun i H x H' => H' = H ∧ ∃ e, es[i]? = some e ∧ x = e.2.1, fun i H => H d = some (WDo w d es ep) ∧ es.length ≤ i⟩
theorem at_word (I : Inv X pins σ H s) (h : H d = some (WDo X.w d es ep)) : (d == sysModules) = false ∧ ∃ (o : Obj) (ds : Array DictEntry), s.heap.get? d = some o ∧ o.ExactDict ∧ o.data = .dict ds ep ∧ ds.size = es.length ∧
    ∀ (i : Nat) (e : Ent), es[i]? = some e → ∃ en, ds[i]? = some en ∧ RelV e.2.1 en.key := by
  obtain ⟨⟨_, hs, xs, r, o, ds, ho, hx, hd, hes, _⟩, _⟩ := I.hok d _ h
  refine ⟨hs, o, ds, ho, hx, hd, (wE_size hes).trans (Paired.length r).symm, fun i e he => ?_⟩
  obtain ⟨x, h1, _, h3, _⟩ := r.get he
  exact ⟨wE X.w x, by rw [wE_at hes i, h1]; rfl, h3⟩
theorem turn_word {P : Program} {w : World} {K : PySem.W.Frag} {tg : Expr} (it : Addr) : Turn P w K tg (Itw w d es ep) [it] it (fun i h => h.IsKeyIter it d i es.length ep) where
  mem := List.mem_cons_self
  obj := fun i h ⟨oi, e, c, dd⟩ b hb => ⟨oi, by rw [List.mem_singleton.mp hb]; exact e, fun v z => by rw [dd] at z; cases z⟩
  keep := fun i h h' st k => st.at fun oi e => k it List.mem_cons_self oi e
  item := by
    rintro X rfl rfl rfl hc i pins s σ H E I hf st ⟨hd, hi⟩
    obtain ⟨f0, f1, f2, f3, f4, f5⟩ := hf it List.mem_cons_self
    obtain ⟨hs, o, ds', hgd, hx, hdt, hsz, ent⟩ := at_word I hd
    obtain ⟨e, he⟩ : ∃ e, es[i]? = some e := ⟨_, List.getElem?_eq_getElem hi⟩
    obtain ⟨en, hen, rk⟩ := ent i e he
    refine next_key_item st hgd hdt hsz hen fun h' st' sb => ?_
    have I1 : Inv X pins σ H { s with heap := h' } := I.turned (t' := s.toks) (fun b ob hb q => (sb.2 b hb).trans q) f0 f1 f3 f4 f5
    obtain ⟨oi, e1, c, dd⟩ := id st'
    exact ⟨en.key, rfl, go_of (s := { s with heap := h' }) e1 c dd (by decide) ⟨e.2.1, H, I1, rk, ⟨rfl, e, he, rfl⟩, st', fun b hb => (hf b hb).1⟩⟩
  done := by
    rintro X rfl rfl rfl hc i pins s σ H E I hf st ⟨hd, hi⟩
    obtain ⟨f0, f1, f2, f3, f4, f5⟩ := hf it List.mem_cons_self
    obtain ⟨hs, o, ds', hgd, hx, hdt, hsz, ent⟩ := at_word I hd
    exact next_key_end (I.ok.hd hc) st hgd hdt hsz hi fun h' eb => ⟨rfl, I.turned (t' := s.toks) (fun b ob hb q => eb b ob hb q) f0 f1 f3 f4 f5⟩
  self := fun A i s Q E st h => wpAny_pyIter_keyiter st h
def iWords (w : World) (td : TE) : TI := fun σ H R => td σ H fun x H1 => ∃ d es ep, x = .ref d ∧ H1 d = some (WDo w d es ep) ∧ R (Itw w d es ep) H1
theorem pi_words {tg e : Expr} {td : TE} (he : PE X e td) : PI X tg e (iWords X.w td) := by
  refine ⟨fun pins s σ H R I h => thn (he.run pins s σ H _ I h) fun u s1 ⟨x, H1, I1, rx, d, es, ep, ex, hd, q⟩ => ?_⟩
  subst ex
  cases (show u = Value.ref d from rx)
  obtain ⟨hs, o, ds, hgd, hx, hdt, hsz, ent⟩ := at_word I1 hd
  exact iter_keys hs hgd hx hdt (pi_one (tk := s1.toks) I1 _ (turn_word _) ⟨_, Heap.get?_push_size _ rfl, rfl, by rw [hsz] <;> rfl⟩ q)
theorem walk_words {w : World} : Walk (Itw w d es ep) es.length (fun H => H d = some (WDo w d es ep)) (fun i H x H' => H' = H ∧ ∃ e, es[i]? = some e ∧ x = e.2.1) :=
  ⟨fun i H hi h => ⟨h, hi⟩, fun H h => ⟨h, Nat.le_refl _⟩, fun i H x H' _ _ y => y⟩
/-! ### a dict comprehension whose keys are words: D the new dict -/
def tWc (w : World) (K : PySem.W.Frag) (wi : TI) (g : TG) (tt : TT) (tk tv : TE) (vs : List Nat) : TE := fun σ H Q => wi σ H fun J H1 => ∀ D, H1 D = none → ∃ W : Nat → Nat → Hp → Prop, (∃ m, W 0 m (upd H1 D (WDo w D [] 0))) ∧ ∀ i m H, W i m H →
  (J.stop i H ∧ Q (.ref D) H) ∨ (J.go i H ∧ ∃ Nx : Hp → Prop, (∀ H', Nx H' → ∃ m', m' < m ∧ W (i + 1) m' H') ∧ ∀ x H', J.yld i H x H' → g x (wipe σ vs) H' fun σ2 H2 => wipe σ2 vs = wipe σ vs ∧ tt σ2 H2 fun b H3 =>
    if b = true then tk σ2 H3 fun y H4 => tv σ2 H4 fun z H5 => ∃ es ep k, WdAt K H5 y k ∧ H5 D = some (WDo w D es ep) ∧ (∀ e ∈ es, WdAt K H5 e.2.1 e.1) ∧ k ∉ es.map (·.1) ∧ es.length < sizeLine ∧ Nx (upd H5 D (WDo w D (es ++ [(k, y, z)]) (ep + 1))) else Nx H3)
theorem pe_wc {kx vx tg iter : Expr} {ifs : List Expr} {scope : Scope} {own : List (Str × Nat)} {pos : Pos} {wi : TI} {g : TG} {tt : TT} {tk tv : TE} (hu : X.A.units + 8 < cLine) (hc : X.calm = true) (hN : X.N.Nodup) (hi : PI X tg iter wi) (ok : BlkOk X.N X.env.scope scope own)
    (hg : ∀ s H C cl fp, PG (X.blk s H scope (compEnvC scope cl C X.env) fp) tg g) (ht : ∀ s H C cl fp, PTs (X.blk s H scope (compEnvC scope cl C X.env) fp) ifs tt) (hk : ∀ s H C cl fp, PE (X.blk s H scope (compEnvC scope cl C X.env) fp) kx tk)
    (he : ∀ s H C cl fp, PE (X.blk s H scope (compEnvC scope cl C X.env) fp) vx tv) (hs : ∀ x, foldedSetIterable iter X.env x = pure x := by intro _; rfl) :
    PE X (.DictComp kx vx [⟨tg, iter, ifs, 0⟩] scope pos) (tWc X.w X.K wi g tt tk tv (own.map (·.2))) := by
  refine ⟨fun pins s σ H Q I h => ?_⟩
  have hfree : ∀ y ∈ scope.names, y.2 = .free → ∃ c, X.env.cells.lookup y.1 = some c := fun y hy e => (ok.free y hy e).elim (fun q => I.ok.has _ (.inl q)) fun q => I.ok.has _ (.inr q)
  rw [arm_eval_DictComp]
  refine wpAny_comprehension_free rfl hs (closure_ok hfree) ok.kind (fun y hy e => by rw [ok.uniq y hy, e]) (thn (hi.run pins s σ H _ I h) fun xv s1 hx => thn hx fun itv s2 ⟨it, fp, tn, J, H2, e, I2, T, st2, f2, q⟩ => ?_)
  subst e
  refine wpAny_newObj_type (newEnv_comp ?_)
  generalize hD : s2.heap.objs.size = D
  obtain ⟨W, ⟨m0, w0⟩, turn⟩ := q D (I2.hok.fresh (Nat.le_of_eq hD))
  generalize hs3 : (Shared.mk (s2.heap.push { cls := .type "dict", data := .dict #[] }) s2.gens s2.drawn s2.toks s2.os) = s3
  have h3 : s3.heap = s2.heap.push { cls := .type "dict", data := .dict #[] } := by rw [← hs3]
  have I3 : Inv X pins σ (upd H2 D (WDo X.w D [] 0)) s3 := by
    rw [← hs3, ← hD]
    exact I2.laid (t' := s2.toks) (fun b o e => Heap.get?_push_of_some _ e) (Nat.le_refl _) (wdo_empty s2.heap I2.big)
  have lt2 : ∀ b ∈ fp, b < s2.heap.objs.size := fun b hb => let ⟨_, e, _⟩ := T.obj _ _ st2 b hb; Heap.lt_size e
  have f3 : ∀ b ∈ fp, FpOk X pins (upd H2 D (WDo X.w D [] 0)) b ∧ b < s3.heap.objs.size := fun b hb =>
    ⟨⟨by rw [upd_ne (by rw [← hD]; exact Nat.ne_of_lt (lt2 b hb))]; exact (f2 b hb).1, (f2 b hb).2⟩, by rw [h3, Heap.size_push]; exact Nat.lt_succ_of_lt (lt2 b hb)⟩
  have st3 : tn 0 s3.heap := T.keep _ _ _ st2 fun b _ o e => by rw [h3]; exact Heap.get?_push_of_some _ e
  have I4 := block_start I3 ok hN f3
  have nfp : ∀ b ∈ fp, (upd H2 D (WDo X.w D [] 0)) b = none := fun b hb => (f3 b hb).1.1
  show codeAny _ _ (.compStart (.DictComp kx vx [⟨tg, iter, ifs, 0⟩] scope pos) 0 (.ref it) (.ref D) (compEnvC scope (cellsFrom (s3.heap.objs.size + 1) scope.names (cloFrom X.env.cells scope.names [])) s3.heap.objs.size X.env)) (compPost (model X.prog X.w) X.A X.xe none (EP X pins σ Q) (.ref D) s3.heap.objs.size) { s3 with heap := pushCells (s3.heap.push { cls := .type "dict", data := .dict #[] }) scope.names }
  have pg := hg s3 (upd H2 D (WDo X.w D [] 0)) s3.heap.objs.size (cellsFrom (s3.heap.objs.size + 1) scope.names (cloFrom X.env.cells scope.names [])) fp
  have pt := ht s3 (upd H2 D (WDo X.w D [] 0)) s3.heap.objs.size (cellsFrom (s3.heap.objs.size + 1) scope.names (cloFrom X.env.cells scope.names [])) fp
  have pk := hk s3 (upd H2 D (WDo X.w D [] 0)) s3.heap.objs.size (cellsFrom (s3.heap.objs.size + 1) scope.names (cloFrom X.env.cells scope.names [])) fp
  have pv' := he s3 (upd H2 D (WDo X.w D [] 0)) s3.heap.objs.size (cellsFrom (s3.heap.objs.size + 1) scope.names (cloFrom X.env.cells scope.names [])) fp
  generalize hce : compEnvC scope (cellsFrom (s3.heap.objs.size + 1) scope.names (cloFrom X.env.cells scope.names [])) s3.heap.objs.size X.env = ce at I4 pg pt pk pv' ⊢
  have cL : ce.locals = s3.heap.objs.size := by subst hce; rfl
  generalize hH3 : upd H2 D (WDo X.w D [] 0) = H3 at I3 I4 pg pt pk pv' w0 nfp f3
  generalize hs4 : ({ s3 with heap := pushCells (s3.heap.push { cls := .type "dict", data := .dict #[] }) scope.names } : Shared) = s4 at I4 ⊢
  have st4 : tn 0 s4.heap := T.keep _ _ _ st3 fun b _ o e => by rw [← hs4]; exact pushCells_keeps _ _ _ _ (Heap.get?_push_of_some _ e)
  have stat : ∀ {σ' : L2.St} {H' : Hp} {s' : Shared}, Inv (X.blk s3 H3 scope ce fp) [] σ' H' s' → (∀ b ∈ fp, H' b = none) → ∀ b ∈ fp, FpOk (X.blk s3 H3 scope ce fp) [] H' b := fun {σ' H' s'} I' hn b hb =>
    ⟨hn b hb, (I'.ok.exf b hb).1, I'.ok.exfs b hb, .inl hb, (I'.ok.exf b hb).2, fun p hp => nomatch (show p ∈ ([] : List (Addr × Obj)) ++ [] from hp)⟩
  have post : ∀ s' m H', Inv X pins σ H' s' → Q (.ref D) H' → s'.heap.Ns s3.heap.objs.size m → FpOk X pins H' s3.heap.objs.size → compPost (model X.prog X.w) X.A X.xe none (EP X pins σ Q) (.ref D) s3.heap.objs.size (.ok .next) s' := fun s' m H' I' q hn ⟨f0, f1, f2, f3, f4, f5⟩ =>
    ⟨m, hn, fun h'' sb => ⟨.ref D, H', I'.turned (t' := s'.toks) (fun b o hb e => (sb.2 b hb).trans e) f0 f1 f3 f4 f5, rfl, q⟩⟩
  have loop : codeAny (model X.prog X.w) X.A (.compLoop (.DictComp kx vx [⟨tg, iter, ifs, 0⟩] scope pos) 0 (.ref it) (.ref D) ce) (compPost (model X.prog X.w) X.A X.xe none (EP X pins σ Q) (.ref D) s3.heap.objs.size) s4 := by
    refine compLoop_anyD (fun n s' => ∃ i H', Inv (X.blk s3 H3 scope ce fp) [] (wipe σ (own.map (·.2))) H' s' ∧ tn i s'.heap ∧ (∀ b ∈ fp, H' b = none) ∧ W i n H') ?_ m0 ⟨0, H3, I4, st4, nfp, w0⟩
    rintro n s5 ⟨i, H5, I5, st5, n5, w5⟩
    rcases turn i n H5 w5 with ⟨stop, qq⟩ | ⟨go, Nx, hNx, step⟩
    · refine thnF (T.done (X.blk s3 H3 scope ce fp) rfl rfl rfl hc i [] s5 _ H5 (fun _ _ => False) I5 (stat I5 n5) st5 stop) fun r s6 ⟨hr, I6⟩ => ?_
      subst hr
      have I7 : Inv X pins σ H5 s6 := I3.call' (ch := fp) I6.os I6.base I6.hok I6.bare fun b hb => let z := (f3 b hb).1; ⟨z.2.2.2.1, z.2.1, z.2.2.2.2.1, z.2.2.2.2.2⟩
      have nC : H5 s3.heap.objs.size = none := cL ▸ (show H5 ce.locals = none from I6.free)
      obtain ⟨m, hn, _⟩ := I6.loc
      exact post s6 m H5 I7 qq (cL ▸ (show s6.heap.Ns ce.locals m from hn)) (I3.fpOk (Nat.le_refl _) nC)
    · refine thnF (T.item (X.blk s3 H3 scope ce fp) rfl rfl rfl hc i [] s5 _ H5 (fun _ _ => False) I5 (stat I5 n5) st5 go) fun r s6 ⟨u, hr, h6⟩ => ?_
      subst hr
      refine thnF h6 fun _ s7 ⟨x, H7, I7, r7, y7, st7, n7⟩ => ?_
      refine thnF (pg.run _ s7 _ H7 x u _ (I7.pinned (stat I7 n7) (T.obj _ _ st7)) r7 (step x H7 y7)) fun _ s8 ⟨σ8, H8, I8, hw8, q8⟩ => ?_
      refine thnF (pt.run _ s8 σ8 H8 _ I8 q8) fun b s9 ⟨H9, I9, q9⟩ => ?_
      have fin : ∀ {s' : Shared} {H' : Hp}, Inv (X.blk s3 H3 scope ce fp) ([] ++ pinsAt fp s7.heap) σ8 H' s' → Nx H' → ∃ m, m < n ∧ ∃ i H', Inv (X.blk s3 H3 scope ce fp) [] (wipe σ (own.map (·.2))) H' s' ∧ tn i s'.heap ∧ (∀ b ∈ fp, H' b = none) ∧ W i m H' := fun {s' H'} I' nx => by
        obtain ⟨m', hm, w'⟩ := hNx H' nx
        have pin' : ∀ b ∈ fp, ∀ o, s7.heap.get? b = some o → s'.heap.get? b = some o ∧ H' b = none := fun b hb o e => let z := I'.pin (b, o) (List.mem_append_right _ (List.mem_append_right _ (mem_pinsAt hb e))); ⟨z.1, z.2.1⟩
        refine ⟨m', hm, i + 1, H', (I'.unpinned (pins := [])).weak (by rw [← hw8, wipe_length]) (fun j v e => (wipe_some (hw8.symm ▸ e)).1), T.keep _ _ _ st7 fun b hb o e => (pin' b hb o e).1, fun b hb => let ⟨o, e, _⟩ := T.obj _ _ st7 b hb; (pin' b hb o e).2, w'⟩
      cases b with
      | false => exact fin I9 q9
      | true =>
        refine thnF (pk.run _ s9 σ8 H9 _ I9 q9) fun z s10 ⟨yk, H10, I10, r10, q10⟩ => thnF (pv'.run _ s10 σ8 H10 _ I10 q10) fun z2 s11 ⟨yv, H11, I11, r11, es, ep, k, wk, hD11, hes, hn11, hz11, nx⟩ => ?_
        exact w_storeC (X := X.blk s3 H3 scope ce fp) hu I11 wk hD11 hes hn11 hz11 r10 r11 fun s12 I12 => fin I12 nx
  exact codeAny_compStart_dict loop (T.self X.A 0 _ _ _ st4 loop)
end
end FF
/-! enumerate over a tuple; len of an instance; choices -/
namespace PySem
set_option maxHeartbeats 1000000 in
theorem ffEnumNew {v : Value} {o : Obj} {H : Heap → Prop} (B : Begins v o H) :
    Meets (Builtin.«enumerate.__new__» ⟨[.type "enumerate", v], []⟩) (fun _ R s => H s.heap ∧ R (.ok (.ret (.ref (s.heap.push o).objs.size))) { s with heap := (s.heap.push o).push { cls := .type "enumerate", data := .fields #[.none, .bool false, .ref s.heap.objs.size, rawInt 0, .none, .none] } }) :=
  .of_wp fun prog w A R s h => by
    obtain ⟨hp, g, d, tk, os⟩ := s
    obtain ⟨h1, h⟩ := h
    have hsub := sub_enumerate
    have go : ∀ {A' : Around} {E : Value → Shared → Prop} {Q : Value → Shared → Prop}, Q (.ref hp.objs.size) ⟨hp.push o, g, d, tk, os⟩ → wpAny (model prog w) A' (pyIter v) Q E ⟨hp, g, d, tk, os⟩ := fun q => B.iter prog w _ _ ⟨hp, g, d, tk, os⟩ _ h1 q
    wp_walk using go
    refine wpAny_stack_any fun st => wpAny_pure ?_
    split
    · rename_i c _ _ _ _ _
      cases (c == Value.type "enumerate") <;> (wp_walk using go; exact ⟨_, rfl, h⟩)
    · wp_walk using go
      exact ⟨_, rfl, h⟩
theorem ffEnumCall {prog : Program} {w : World} {A : Around} {E : Value → Shared → Prop} {s : Shared} {v : Value} {o : Obj} {H : Heap → Prop} {Q : Value → Shared → Prop} (B : Begins v o H) (h1 : H s.heap)
    (h : ∀ h', IsEnum h' (s.heap.objs.size + 1) s.heap.objs.size 0 .none → h'.get? s.heap.objs.size = some o → (∀ b o, s.heap.get? b = some o → h'.get? b = some o) → Q (.ref (s.heap.objs.size + 1)) { s with heap := h' }) :
    wpAny (model prog w) A (call (.type "enumerate") [v]) Q E s := by
  refine callType_new F.called_enumerate (by decide) (F.typeCall_enumerate_1 _) (F.newCall_enumerate_1 _) (fun obj => F.args_object_init_2 obj _) F.entry_enumerate_new (ffEnumNew B) ⟨h1, ?_⟩
  have hz : (s.heap.push o).objs.size = s.heap.objs.size + 1 := Heap.size_push ..
  have he : IsEnum ((s.heap.push o).push { cls := .type "enumerate", data := .fields #[.none, .bool false, .ref s.heap.objs.size, rawInt 0, .none, .none] }) (s.heap.objs.size + 1) s.heap.objs.size 0 .none := by
    rw [← hz]
    exact Heap.get?_push_size _ rfl
  show _ ∧ _
  rw [hz]
  exact ⟨⟨_, he, rfl⟩, h _ he (Heap.get?_push_of_some _ (Heap.get?_push_size _ B.free)) fun b o x => Heap.get?_push_of_some _ (Heap.get?_push_of_some _ x)⟩
end PySem
namespace FF
open PySem PySem.Spec PyProof.Rows L2
/-! ### choices -/
section
variable {X : Cx}
theorem pi_or {tg it : Expr} {w1 w2 : TI} (a : PI X tg it w1) (b : PI X tg it w2) : PI X tg it (fun σ H R => w1 σ H R ∨ w2 σ H R) :=
  ⟨fun pins s σ H R I h => h.elim (a.run pins s σ H R I) (b.run pins s σ H R I)⟩
theorem pe_or2 {e : Expr} {t1 t2 : TE} (a : PE X e t1) (b : PE X e t2) : PE X e (fun σ H Q => t1 σ H Q ∨ t2 σ H Q) :=
  ⟨fun pins s σ H Q I h => h.elim (a.run pins s σ H Q I) (b.run pins s σ H Q I)⟩
end
/-! ### enumerate(tuple) -/
def IteT (K : PySem.W.Frag) (a : Addr) : It :=
  ⟨fun i H => ∃ (xs : List V) (x : V), SqT K H a xs ∧ xs[i]? = some x, fun i H v H' => ∃ T x, v = .ref T ∧ H T = none ∧ H' = upd H T (.tup [.int (i : Nat), x]) ∧ ∀ xs, SqT K H a xs → xs[i]? = some x, fun i H => ∃ xs : List V, SqT K H a xs ∧ xs.length ≤ i⟩
theorem turn_enumT {P : Program} {w : World} {K : PySem.W.Frag} {elts : List Expr} {kk : Nat} {tpos : Pos} (a e it : Addr) :
    Turn P w K (.Tuple elts kk tpos) (IteT K a) [e, it] e (fun i h => (∃ old, IsEnum h e it ((i : Nat) : Int) old) ∧ h.IsTupleIter it a i ∧ e ≠ it ∧ it ≠ a ∧ e ≠ a) where
  mem := List.mem_cons_self
  obj := fun i h ⟨⟨old, he⟩, ⟨o, ho, hc, hd⟩, _⟩ b hb => by
    rcases List.mem_cons.mp hb with rfl | hb
    · exact ⟨_, he, fun v q => nomatch q⟩
    · rw [List.mem_singleton.mp hb]
      exact ⟨o, ho, fun v q => by rw [hd] at q; cases q⟩
  keep := fun i h h' ⟨⟨old, he⟩, hi, r⟩ k => ⟨⟨old, k e List.mem_cons_self _ he⟩, hi.at fun o q => k it (List.mem_cons_of_mem _ List.mem_cons_self) o q, r⟩
  item := by
    rintro X rfl rfl rfl hc i pins s σ H E I hf ⟨⟨old, he⟩, hit, hne, hia, hea⟩ ⟨xs, x, hq, hx⟩
    obtain ⟨its, rv, p, hz⟩ := I.tuple hq
    obtain ⟨u, hu, ru⟩ := rv.get hx
    have hel : e < s.heap.objs.size := Heap.lt_size he
    have hil : it < s.heap.objs.size := let ⟨_, q, _⟩ := hit; Heap.lt_size q
    have hT0 : s.heap.IsTuple a its.toArray := let ⟨o, q1, q2, n, q3⟩ := p; ⟨o, q1, q2, n, q3⟩
    refine wpAny_pyNext_enum_itemD (Draws.tuple (prog := X.prog) (w := X.w) (A := X.A.in1) (I.ok.hd hc) it a (Ne.symm hia) its.toArray) he ⟨hit, hT0⟩ (by rw [List.size_toArray]; exact (List.getElem?_eq_some_iff.mp hu).1) hne
      (by simp only [List.mem_cons, List.not_mem_nil, or_false, not_or]; exact ⟨hne, hea⟩) fun y h' tk hy ho st' hT hsz hk => ?_
    have ey : y = u := by
      have q : its.toArray[i]? = some u := by simpa using hu
      rw [q] at hy
      exact (Option.some.inj hy).symm
    subst ey
    refine ⟨_, rfl, wpAny_letOwnedTupleGo_enum (s := { s with heap := h', toks := tk + 1 }) ho fun h'' he' sb => ?_⟩
    have hT2 : h''.get? s.heap.objs.size = some { cls := .type "tuple", data := .seq #[.int i tk, y] } := (sb.2 _ (Nat.ne_of_gt hel)).trans hT
    have new : ObjOk X.prog X.w (upd H s.heap.objs.size (.tup [.int (i : Nat), x])) h'' s.heap.objs.size (.tup [.int (i : Nat), x]) := ⟨by show 2 ≤ sizeLine; decide, [.int i tk, y], .cons ⟨_, rfl⟩ (.cons ru .nil), ⟨_, hT2, rfl, _, rfl⟩⟩
    have I1 : Inv X pins σ (upd H s.heap.objs.size (.tup [.int (i : Nat), x])) { s with heap := h'', toks := tk + 1 } :=
      I.turnedNew (ch := [e, it]) (fun b ob hb q => (sb.2 b (fun z => hb (z ▸ List.mem_cons_self))).trans (hk b ob (fun z => hb (z ▸ List.mem_cons_self)) (fun z => hb (z ▸ List.mem_cons_of_mem _ List.mem_cons_self)) q)) hf (Nat.le_refl _) new
    refine ⟨.ref s.heap.objs.size, _, I1, rfl, ⟨_, x, rfl, I.hok.fresh (Nat.le_refl _), rfl, fun ys hy => by rw [I.tuple_inj hy hq]; exact hx⟩, ⟨⟨y, ?_⟩, st'.1.at fun o q => (sb.2 it (Ne.symm hne)).trans q, hne, hia, hea⟩, fun b hb => ?_⟩
    · rw [show ((i + 1 : Nat) : Int) = (i : Int) + 1 by omega]
      exact he'
    · have hb' : b < s.heap.objs.size := by
        rcases List.mem_cons.mp hb with q | q
        · rw [q]; exact hel
        · rw [List.mem_singleton.mp q]; exact hil
      rw [upd_ne (Nat.ne_of_lt hb')]
      exact (hf b hb).1
  done := by
    rintro X rfl rfl rfl hc i pins s σ H E I hf ⟨⟨old, he⟩, hit, hne, hia, hea⟩ ⟨xs, hq, hx⟩
    obtain ⟨its, rv, p, hz⟩ := I.tuple hq
    obtain ⟨f0, f1, f2, f3, f4, f5⟩ := hf it (List.mem_cons_of_mem _ List.mem_cons_self)
    have hT0 : s.heap.IsTuple a its.toArray := let ⟨o, q1, q2, n, q3⟩ := p; ⟨o, q1, q2, n, q3⟩
    have hlen : its.toArray[i]? = none := by rw [List.getElem?_toArray]; exact List.getElem?_eq_none (by rw [← rv.length]; exact hx)
    have D : Draws X.prog X.w X.A.in1 it [it, a] i (fun _ _ => True) (fun j h => j = i ∧ h.IsTupleIter it a i ∧ h.IsTuple a its.toArray) :=
      { live := fun _ _ st => let ⟨o, ho, _⟩ := st.2.1; ⟨o, ho⟩
        frame := fun _ _ _ st hk => ⟨st.1, st.2.1.at fun o q => hk it List.mem_cons_self o q, st.2.2.at fun o q => hk a (List.mem_cons_of_mem _ List.mem_cons_self) o q⟩
        item := fun j s Q E hj st _ => absurd st.1 (Nat.ne_of_lt hj)
        done := fun s Q E st hE => wpAny_nextOf_tuple_end (show X.A.in1.handled = none from I.ok.hd hc) st.2.1 st.2.2 hlen hE }
    exact wpAny_pyNext_enum_endD D he ⟨rfl, hit, hT0⟩ fun h' eb => ⟨rfl, I.turned (t' := s.toks) (fun b o hb q => eb b o hb q) f0 f1 f3 f4 f5⟩
  self := fun A i s Q E ⟨⟨_, he⟩, _⟩ h => wpAny_pyIter_enum he h
def iEnumT (K : PySem.W.Frag) (ta : TA) : TI := fun σ H R => ta σ H fun vs H1 => ∃ a xs, vs = [.ref a] ∧ SqT K H1 a xs ∧ R (IteT K a) H1
section
variable {X : Cx}
theorem pi_enumT {e : Expr} {ta : TA} {p pos tpos : Pos} {elts : List Expr} {kk : Nat} (hg : Gl X "enumerate") (hm : X.mg "enumerate" = none) (ha : PA X [e] ta) (hs : starEach [e] X.env = [(false, eval e X.env)] := by rfl) :
    PI X (.Tuple elts kk tpos) (.Call (.Name "enumerate" p) [e] [] pos) (iEnumT X.K ta) := by
  refine ⟨fun pins s σ H R I h => Call_ (ld_blt I hg hm boot_enumerate (PyProof.Rows.callWith_type1 (thn (ha.run pos pins s σ H _ I h) fun us s1 ⟨vs, H1, I1, r1, a, xs, ex, hq, q⟩ => ?_) hs rfl))⟩
  subst ex
  cases r1 with
  | cons r rr =>
    cases rr
    cases r
    obtain ⟨its, rv, p', hz⟩ := I1.tuple hq
    have hT0 : s1.heap.IsTuple a its.toArray := let ⟨o, q1, q2, n, q3⟩ := p'; ⟨o, q1, q2, n, q3⟩
    have hal : a < s1.heap.objs.size := let ⟨o, q1, _⟩ := p'; Heap.lt_size q1
    refine ffEnumCall (begins_tuple a its.toArray) hT0 fun h' he hit hk => wpAny_pyIter_enum he ?_
    have I2 : Inv X pins σ H1 { s1 with heap := h' } := I1.kept (t' := s1.toks) hk
    refine ⟨s1.heap.objs.size + 1, [s1.heap.objs.size + 1, s1.heap.objs.size], _, _, H1, rfl, I2, turn_enumT a (s1.heap.objs.size + 1) s1.heap.objs.size, ⟨⟨.none, he⟩, ⟨_, hit, rfl, rfl⟩, Nat.succ_ne_self _, Nat.ne_of_gt hal, Nat.ne_of_gt (Nat.lt_succ_of_lt hal)⟩, fun b hb => ?_, q⟩
    have hle : s1.heap.objs.size ≤ b := by
      rcases List.mem_cons.mp hb with z | z
      · rw [z]; exact Nat.le_add_right _ _
      · rw [List.mem_singleton.mp z]; exact Nat.le_refl _
    exact I1.fpOk hle (I1.hok.fresh hle)
theorem walk_enumT {K : PySem.W.Frag} {a : Addr} {xs : List V} : Walk (IteT K a) xs.length (fun H => SqT K H a xs) (YPair (fun i => some (.int (i : Nat))) (fun i => xs[i]?)) :=
  ⟨fun i H hi h => ⟨xs, xs[i], h, List.getElem?_eq_getElem hi⟩, fun H h => ⟨xs, h, Nat.le_refl _⟩, fun i H v H' _ h ⟨T, x, e1, e2, e3, q⟩ => ⟨T, _, x, e1, e2, e3, rfl, q xs h⟩⟩
/-! ### len(o), o of an own class -/
def rLenO (C : Addr) (sp : Sp) (E : XK) : List V → Hp → VK → Prop := fun vs H Q => ∃ a dx fs, vs = [V.ref a] ∧ H a = some (.ins C dx fs) ∧ sp [.ref a] H (fun v H' => ∃ n : Nat, v = .int n ∧ (n : Int) < 2 ^ 63 ∧ Q (.int n) H') E
theorem cr_lenO {CX : CXT} {C f : Addr} {k : Nat} {fd : FuncData} {ps : List Str} {sp : Sp} {E : XK} (F : FnOk X.prog X.w X.K X.mg X.base CX k f fd ps sp) (hs : PySem.W.findIn X.K (.ref C) "__len__" = some (some (.ref f))) (hf : PySem.W.isFn X.K (.ref f) = true) (hb : Binds X.K fd ps []) (hx : Passes CX X E) (hr : Room (k + 1) X.A) :
    CallR X (.builtin "len") (rLenO C sp E) := by
  intro pins s σ H xs us Q I r h
  obtain ⟨a, dx, fs, rfl, ha, hsp⟩ := h
  obtain ⟨u, rfl, rx⟩ := vals1 r
  cases (show u = Value.ref a from rx)
  obtain ⟨mA, J, _⟩ := ins_get I.hok ha
  obtain ⟨od, J, _⟩ := J.look
  obtain ⟨m, hF⟩ := I.fr
  refine PySem.W.len_K hF I.ok.mod.kin J hs hf ?_
  have hl := F.len _ _ _ _ hsp
  refine wpAny_call (codeAny_mono (F.run X.A.in1 X.stack s H ⟨[.ref a], []⟩ [.ref a] [.ref a] _ E hr.in1 I.env0.in1 (by simpa using hb s [.ref a] I.kIn (by simpa using hl)) (.cons rfl .nil) hsp) fun r s' hq => ?_)
  cases r with
  | error e => exact hx pins σ H s e s' I hq
  | ok fl =>
    cases fl with
    | ret w =>
      obtain ⟨z, H', I', rz, n, ez, hn, q⟩ := I.after hq
      subst ez
      obtain ⟨t, rfl⟩ := rz
      exact ⟨⟨Int.natCast_nonneg n, hn⟩, .int n, H', I'.tok _, ⟨_, rfl⟩, q⟩
    | next => exact False.elim hq
    | brk => exact False.elim hq
    | cont => exact False.elim hq
end
end FF
set_option maxHeartbeats 1000000
/-! the mathematics: graphs with worded steps, shortest runs, what is reached, closed lists -/
namespace FF
open PySem
abbrev Wd := NestedKey
abbrev Row := List (Wd × Nat)
abbrev Gr := List Row
def row (G : Gr) (h : Nat) : Row := G.getD h []
inductive Rch (G : Gr) : Nat → Nat → Prop
  | refl (s : Nat) : Rch G s s
  | step {s t u : Nat} {w : Wd} : Rch G s t → (w, u) ∈ row G t → Rch G s u
theorem Rch.trans {G : Gr} {s t u : Nat} (a : Rch G s t) (b : Rch G t u) : Rch G s u := by
  induction b with
  | refl => exact a
  | step _ m ih => exact .step ih m
theorem Rch.head {G : Gr} {s t u : Nat} {w : Wd} (m : (w, t) ∈ row G s) (b : Rch G t u) : Rch G s u := Rch.trans (.step (.refl s) m) b
/-- all steps lead to stands; a stand's words differ -/
structure GrOk (G : Gr) : Prop where
  pos : 0 < G.length
  to : ∀ h w u, (w, u) ∈ row G h → u < G.length
  nd : ∀ h, ((row G h).map (·.1)).Nodup
theorem row_out {G : Gr} {h : Nat} (e : G.length ≤ h) : row G h = [] := by
  unfold row
  rw [List.getD_eq_getElem?_getD, List.getElem?_eq_none e]
  rfl
theorem Rch.lt {G : Gr} (ok : GrOk G) {s t : Nat} (r : Rch G s t) (h : s < G.length) : t < G.length := by
  induction r with
  | refl => exact h
  | step _ m _ => exact ok.to _ _ _ m
/-! ### a set that steps do not leave -/
def Stays (G : Gr) (C : Nat → Prop) : Prop := ∀ s w u, C s → (w, u) ∈ row G s → C u
theorem Rch.stays {G : Gr} {C : Nat → Prop} (c : Stays G C) {s t : Nat} (r : Rch G s t) (h : C s) : C t := by
  induction r with
  | refl => exact h
  | step _ m ih => exact c _ _ _ ih m
/-! ### shortest runs -/
abbrev Fnd := List (Nat × List Wd)
def addM (run : List Wd) (F : Fnd) (m : Wd × Nat) : Fnd := if m.2 ∈ F.map (·.1) then F else F ++ [(m.2, run ++ [m.1])]
def procR (run : List Wd) (F : Fnd) (r : Row) : Fnd := r.foldl (addM run) F
def bfsGo (G : Gr) : Nat → Fnd → Nat → Fnd
  | 0, F, _ => F
  | n + 1, F, i => match F[i]? with
    | none => F
    | some x => bfsGo G n (procR x.2 F (row G x.1)) (i + 1)
def bfs (G : Gr) : Fnd := bfsGo G (G.length + 1) [(0, [])] 0
theorem addM_pre (run : List Wd) (F : Fnd) (m : Wd × Nat) : ∃ E, addM run F m = F ++ E := by
  unfold addM
  split
  · exact ⟨[], by simp⟩
  · exact ⟨_, rfl⟩
theorem procR_pre (run : List Wd) : ∀ (r : Row) (F : Fnd), ∃ E, procR run F r = F ++ E
  | [], F => ⟨[], by simp [procR]⟩
  | m :: r, F => by
    obtain ⟨E, e⟩ := addM_pre run F m
    obtain ⟨E', e'⟩ := procR_pre run r (addM run F m)
    refine ⟨E ++ E', ?_⟩
    show procR run (addM run F m) r = _
    rw [e', e, List.append_assoc]
/-- the stand behind a run from s -/
def walkG (G : Gr) : Nat → List Wd → Option Nat
  | s, [] => some s
  | s, w :: ws => match (row G s).find? fun m => decide (m.1 = w) with
    | some m => walkG G m.2 ws
    | none => none
theorem walkG_snoc (G : Gr) : ∀ (run : List Wd) (s t : Nat) (w : Wd) (u : Nat), walkG G s run = some t → ((row G t).find? fun m => decide (m.1 = w)) = some (w, u) → walkG G s (run ++ [w]) = some u
  | [], s, t, w, u, h, hf => by
    cases h
    show (match (row G s).find? fun m => decide (m.1 = w) with | some m => walkG G m.2 [] | none => none) = _
    rw [hf]
    rfl
  | v :: run, s, t, w, u, h, hf => by
    show (match (row G s).find? fun m => decide (m.1 = v) with | some m => walkG G m.2 (run ++ [w]) | none => none) = _
    have h' : (match (row G s).find? fun m => decide (m.1 = v) with | some m => walkG G m.2 run | none => none) = some t := h
    cases e : (row G s).find? fun m => decide (m.1 = v) with
    | none => rw [e] at h'; cases h'
    | some m =>
      rw [e] at h'
      exact walkG_snoc G run m.2 t w u h' hf
theorem find_word {r : Row} (hn : (r.map (·.1)).Nodup) {w : Wd} {u : Nat} (h : (w, u) ∈ r) : (r.find? fun m => decide (m.1 = w)) = some (w, u) := by
  induction r with
  | nil => cases h
  | cons m r ih =>
    rw [List.map_cons, List.nodup_cons] at hn
    rw [List.find?_cons]
    rcases List.mem_cons.mp h with e | h'
    · rw [← e]
      simp
    · have ne : ¬ m.1 = w := fun e => hn.1 (e ▸ List.mem_map.mpr ⟨(w, u), h', rfl⟩)
      rw [decide_eq_false ne]
      exact ih hn.2 h'
/-- what holds of the found runs, the first i of which have been gone on from -/
structure BInv (G : Gr) (F : Fnd) (i : Nat) : Prop where
  zero : F[0]? = some (0, [])
  nd : (F.map (·.1)).Nodup
  lt : ∀ x ∈ F, x.1 < G.length
  runs : ∀ x ∈ F, walkG G 0 x.2 = some x.1
  rch : ∀ x ∈ F, Rch G 0 x.1
  sorted : (F.map (·.2.length)).Pairwise (· ≤ ·)
  near : ∀ y, F[i]? = some y → ∀ x ∈ F, x.2.length ≤ y.2.length + 1
  done : ∀ j x, j < i → F[j]? = some x → ∀ m ∈ row G x.1, m.2 ∈ F.map (·.1)
  le : i ≤ F.length
theorem BInv.start {G : Gr} (ok : GrOk G) : BInv G [(0, [])] 0 where
  zero := rfl
  nd := by simp
  lt := fun x hx => by rw [List.mem_singleton.mp hx]; exact ok.pos
  runs := fun x hx => by rw [List.mem_singleton.mp hx]; rfl
  rch := fun x hx => by rw [List.mem_singleton.mp hx]; exact .refl 0
  sorted := by simp
  near := fun y hy x hx => by
    cases hy
    rw [List.mem_singleton.mp hx]
    exact Nat.zero_le _
  done := fun j x hj => absurd hj (Nat.not_lt_zero _)
  le := Nat.zero_le _
theorem nodup_lt : ∀ (n : Nat) (l : List Nat), l.Nodup → (∀ x ∈ l, x < n) → l.length ≤ n
  | 0, l, _, h => by
    cases l with
    | nil => exact Nat.le_refl _
    | cons a l => exact absurd (h a List.mem_cons_self) (Nat.not_lt_zero _)
  | n + 1, l, hn, h => by
    have ih := nodup_lt n (l.erase n) (hn.erase n) fun x hx => by
      have h1 := (hn.mem_erase_iff.mp hx)
      have h2 := h x h1.2
      have h3 := h1.1
      omega
    by_cases hm : n ∈ l
    · rw [List.length_erase_of_mem hm] at ih
      omega
    · rw [List.erase_of_not_mem hm] at ih
      omega
theorem BInv.len {G : Gr} {F : Fnd} {i : Nat} (b : BInv G F i) : F.length ≤ G.length := by
  have := nodup_lt G.length (F.map (·.1)) b.nd fun x hx => by
    obtain ⟨y, hy, e⟩ := List.mem_map.mp hx
    exact e ▸ b.lt y hy
  simpa using this
/-- within a stand's row: the steps r of the stand h (run: its run) are still to be looked at -/
structure MInv (G : Gr) (F0 F : Fnd) (i h : Nat) (run : List Wd) : Prop where
  pre : ∃ E, F = F0 ++ E
  nd : (F.map (·.1)).Nodup
  lt : ∀ x ∈ F, x.1 < G.length
  runs : ∀ x ∈ F, walkG G 0 x.2 = some x.1
  rch : ∀ x ∈ F, Rch G 0 x.1
  sorted : (F.map (·.2.length)).Pairwise (· ≤ ·)
  near : ∀ x ∈ F, x.2.length ≤ run.length + 1
theorem MInv.add {G : Gr} (ok : GrOk G) {F0 F : Fnd} {i h : Nat} {run : List Wd} (b : MInv G F0 F i h run) (hr : walkG G 0 run = some h) (hh : Rch G 0 h) {m : Wd × Nat} (hm : m ∈ row G h) : MInv G F0 (addM run F m) i h run := by
  unfold addM
  split
  · exact b
  rename_i hn
  obtain ⟨E, e⟩ := b.pre
  have all : ∀ {P : Nat × List Wd → Prop}, (∀ x ∈ F, P x) → P (m.2, run ++ [m.1]) → ∀ x ∈ F ++ [(m.2, run ++ [m.1])], P x := fun h1 h2 x hx => by
    rcases List.mem_append.mp hx with q | q
    · exact h1 x q
    · rw [List.mem_singleton.mp q]; exact h2
  refine ⟨⟨E ++ [(m.2, run ++ [m.1])], by rw [e, List.append_assoc]⟩, ?_, all b.lt (ok.to h m.1 m.2 hm), all b.runs ?_, all b.rch (.step hh hm), ?_, all b.near ?_⟩
  · rw [List.map_append, List.nodup_append]
    refine ⟨b.nd, by simp, fun x hx y hy e => ?_⟩
    have : y = m.2 := by simpa using hy
    rw [e, this] at hx
    exact hn hx
  · exact walkG_snoc G run 0 h m.1 m.2 hr (find_word (ok.nd h) hm)
  · rw [List.map_append, List.pairwise_append]
    refine ⟨b.sorted, by simp, fun x hx y hy => ?_⟩
    obtain ⟨z, hz, rfl⟩ := List.mem_map.mp hx
    have h1 : y = run.length + 1 := by simpa using hy
    have h2 := b.near z hz
    rw [h1]
    exact h2
  · show (run ++ [m.1]).length ≤ run.length + 1
    simp
theorem addM_mem (run : List Wd) (F : Fnd) (m : Wd × Nat) : m.2 ∈ (addM run F m).map (·.1) := by
  unfold addM
  split
  · assumption
  · simp
theorem procR_mem (run : List Wd) : ∀ (r : Row) (F : Fnd), ∀ m ∈ r, m.2 ∈ (procR run F r).map (·.1)
  | [], _, _, h => by cases h
  | m :: r, F, x, h => by
    show x.2 ∈ (procR run (addM run F m) r).map (·.1)
    rcases List.mem_cons.mp h with rfl | h
    · obtain ⟨E, e⟩ := procR_pre run r (addM run F x)
      rw [e, List.map_append]
      exact List.mem_append_left _ (addM_mem run F x)
    · exact procR_mem run r _ x h
theorem MInv.row {G : Gr} (ok : GrOk G) {F0 : Fnd} {i h : Nat} {run : List Wd} (hr : walkG G 0 run = some h) (hh : Rch G 0 h) : ∀ (r : Row) (F : Fnd), (∀ m ∈ r, m ∈ row G h) → MInv G F0 F i h run → MInv G F0 (procR run F r) i h run
  | [], F, _, b => b
  | m :: r, F, hr', b => MInv.row ok hr hh r (addM run F m) (fun x hx => hr' x (List.mem_cons_of_mem _ hx)) (b.add ok hr hh (hr' m List.mem_cons_self))
theorem BInv.toM {G : Gr} {F : Fnd} {i h : Nat} {run : List Wd} (b : BInv G F i) (hi : F[i]? = some (h, run)) : MInv G F F i h run :=
  ⟨⟨[], by simp⟩, b.nd, b.lt, b.runs, b.rch, b.sorted, b.near _ hi⟩
theorem MInv.next {G : Gr} {F0 F : Fnd} {i h : Nat} {run : List Wd} (b0 : BInv G F0 i) (hi : F0[i]? = some (h, run)) (b : MInv G F0 F i h run) (hd : ∀ m ∈ FF.row G h, m.2 ∈ F.map (·.1)) : BInv G F (i + 1) := by
  obtain ⟨E, e⟩ := b.pre
  have hl : i < F0.length := (List.getElem?_eq_some_iff.mp hi).1
  have old : ∀ j x, F0[j]? = some x → F[j]? = some x := fun j x q => by rw [e, List.getElem?_append_left (List.getElem?_eq_some_iff.mp q).1]; exact q
  refine ⟨old 0 _ b0.zero, b.nd, b.lt, b.runs, b.rch, b.sorted, fun y hy x hx => ?_, fun j x hj hx m hm => ?_, by rw [e, List.length_append]; omega⟩
  · have h1 := b.near x hx
    have h2 : run.length ≤ y.2.length := by
      have q1 : (F.map (·.2.length))[i]? = some run.length := by rw [List.getElem?_map, old i _ hi]; rfl
      have q2 : (F.map (·.2.length))[i + 1]? = some y.2.length := by rw [List.getElem?_map, hy]; rfl
      obtain ⟨l1, e1⟩ := List.getElem?_eq_some_iff.mp q1
      obtain ⟨l2, e2⟩ := List.getElem?_eq_some_iff.mp q2
      have := List.pairwise_iff_getElem.mp b.sorted i (i + 1) l1 l2 (Nat.lt_succ_self i)
      rw [e1, e2] at this
      exact this
    omega
  · have hj' : j < F0.length := by omega
    have hx0 : F0[j]? = some x := by
      rw [e, List.getElem?_append_left hj'] at hx
      exact hx
    by_cases q : j = i
    · subst q
      rw [hi] at hx0
      cases hx0
      exact hd m hm
    · have := b0.done j x (by omega) hx0 m hm
      rw [e, List.map_append]
      exact List.mem_append_left _ this
theorem BInv.step {G : Gr} (ok : GrOk G) {F : Fnd} {i h : Nat} {run : List Wd} (b : BInv G F i) (hi : F[i]? = some (h, run)) : BInv G (procR run F (row G h)) (i + 1) := by
  have hm : (h, run) ∈ F := List.mem_of_getElem? hi
  exact MInv.next b hi (MInv.row ok (b.runs _ hm) (b.rch _ hm) (row G h) F (fun _ q => q) (b.toM hi)) (procR_mem run (row G h) F)
/-- the search's end -/
theorem bfsGo_end {G : Gr} {F : Fnd} {i : Nat} (h : F[i]? = none) : ∀ n, bfsGo G n F i = F
  | 0 => rfl
  | n + 1 => by
    show (match F[i]? with | none => F | some x => bfsGo G n (procR x.2 F (row G x.1)) (i + 1)) = F
    rw [h]
theorem bfsGo_step {G : Gr} {F : Fnd} {i n h : Nat} {run : List Wd} (hi : F[i]? = some (h, run)) : bfsGo G (n + 1) F i = bfsGo G n (procR run F (row G h)) (i + 1) := by
  show (match F[i]? with | none => F | some x => bfsGo G n (procR x.2 F (row G x.1)) (i + 1)) = _
  rw [hi]
theorem bfsGo_inv {G : Gr} (ok : GrOk G) : ∀ (n : Nat) (F : Fnd) (i : Nat), BInv G F i → G.length + 1 = n + i → BInv G (bfsGo G n F i) (bfsGo G n F i).length
  | 0, F, i, b, e => by have := b.len; have := b.le; omega
  | n + 1, F, i, b, e => by
    cases hi : F[i]? with
    | none =>
      rw [bfsGo_end hi]
      have : i = F.length := by have := b.le; have := List.getElem?_eq_none_iff.mp hi; omega
      exact this ▸ b
    | some x =>
      obtain ⟨h, run⟩ := x
      rw [bfsGo_step hi]
      exact bfsGo_inv ok n _ _ (b.step ok hi) (by omega)
theorem bfs_inv {G : Gr} (ok : GrOk G) : BInv G (bfs G) (bfs G).length := bfsGo_inv ok _ _ _ (BInv.start ok) rfl
theorem bfs_done {G : Gr} (ok : GrOk G) {s : Nat} (h : s ∈ (bfs G).map (·.1)) : ∀ m ∈ row G s, m.2 ∈ (bfs G).map (·.1) := fun m hm => by
  obtain ⟨x, hx, e⟩ := List.mem_map.mp h
  obtain ⟨j, hj⟩ := List.mem_iff_getElem?.mp hx
  exact (bfs_inv ok).done j x (List.getElem?_eq_some_iff.mp hj).1 hj m (e ▸ hm)
theorem bfs_zero {G : Gr} (ok : GrOk G) : 0 ∈ (bfs G).map (·.1) := List.mem_map.mpr ⟨_, List.mem_of_getElem? (bfs_inv ok).zero, rfl⟩
/-- what is found is what is reached -/
theorem bfs_keys {G : Gr} (ok : GrOk G) (s : Nat) : s ∈ (bfs G).map (·.1) ↔ Rch G 0 s := by
  constructor
  · intro h
    obtain ⟨x, hx, e⟩ := List.mem_map.mp h
    exact e ▸ (bfs_inv ok).rch x hx
  · intro r
    exact r.stays (C := fun s => s ∈ (bfs G).map (·.1)) (fun s w u hs hm => bfs_done ok hs (w, u) hm) (bfs_zero ok)
/-! ### runs to bad stands -/
def brk (G : Gr) (bad : List Nat) : List (List Wd) := ((bfs G).filter fun x => decide (x.1 ∈ bad)).map (·.2)
def lost (G : Gr) (bad : List Nat) : List Nat := (brk G bad).map (·.length)
theorem brk_nil {G : Gr} (ok : GrOk G) {bad : List Nat} : brk G bad = [] ↔ ∀ s, Rch G 0 s → s ∉ bad := by
  unfold brk
  rw [List.map_eq_nil_iff, List.filter_eq_nil_iff]
  constructor
  · intro h s r hs
    obtain ⟨x, hx, e⟩ := List.mem_map.mp ((bfs_keys ok s).mpr r)
    exact h x hx (decide_eq_true (e ▸ hs))
  · intro h x hx q
    exact h x.1 ((bfs_inv ok).rch x hx) (of_decide_eq_true q)
theorem brk_run {G : Gr} (ok : GrOk G) {bad : List Nat} {run : List Wd} (h : run ∈ brk G bad) : ∃ s ∈ bad, walkG G 0 run = some s := by
  obtain ⟨x, hx, e⟩ := List.mem_map.mp h
  obtain ⟨h1, h2⟩ := List.mem_filter.mp hx
  exact ⟨x.1, of_decide_eq_true h2, e ▸ (bfs_inv ok).runs x h1⟩
theorem lost_sorted {G : Gr} (ok : GrOk G) {bad : List Nat} : (lost G bad).Pairwise (· ≤ ·) := by
  have h := (bfs_inv ok).sorted
  have : (lost G bad).Sublist ((bfs G).map (·.2.length)) := by
    unfold lost brk
    rw [List.map_map]
    exact (List.filter_sublist).map _
  exact h.sublist this
theorem lost_min {G : Gr} (ok : GrOk G) {bad : List Nat} {run : List Wd} {rest : List (List Wd)} (e : brk G bad = run :: rest) {m : Nat} (hm : m ∈ lost G bad) (hle : ∀ y ∈ lost G bad, m ≤ y) : m = run.length := by
  have hs := lost_sorted (bad := bad) ok
  unfold lost at hm hle hs
  rw [e, List.map_cons] at hm hle hs
  have h1 := hle run.length List.mem_cons_self
  rcases List.mem_cons.mp hm with q | q
  · exact q
  · have h2 := (List.pairwise_cons.mp hs).1 m q
    omega
end FF
namespace FF
open PySem
/-- the stands from which no bad one is reached -/
noncomputable def safe (G : Gr) (bad : List Nat) : List Nat := (List.range G.length).filter fun s => @decide (∀ b ∈ bad, ¬ Rch G s b) (Classical.propDecidable _)
theorem mem_safe {G : Gr} {bad : List Nat} {s : Nat} : s ∈ safe G bad ↔ s < G.length ∧ ∀ b ∈ bad, ¬ Rch G s b := by
  unfold safe
  rw [List.mem_filter, List.mem_range]
  exact and_congr_right fun _ => @decide_eq_true_iff _ (Classical.propDecidable _)
/-- the closed ones among lists of stands -/
def cloB (G : Gr) (bad L : List Nat) : Bool := decide (0 ∈ L) && (L.all fun s => !decide (s ∈ bad)) && L.all fun s => (row G s).all fun m => decide (m.2 ∈ L)
theorem cloB_iff {G : Gr} {bad L : List Nat} : cloB G bad L = true ↔ 0 ∈ L ∧ (∀ s ∈ L, s ∉ bad) ∧ ∀ s ∈ L, ∀ m ∈ row G s, m.2 ∈ L := by
  unfold cloB
  simp only [Bool.and_eq_true, List.all_eq_true, Bool.not_eq_true', decide_eq_true_eq, decide_eq_false_iff_not, and_assoc]
theorem cloB_perm {G : Gr} {bad L L' : List Nat} (h : ∀ s, s ∈ L ↔ s ∈ L') : cloB G bad L = cloB G bad L' := by
  have e : cloB G bad L = true ↔ cloB G bad L' = true := by
    rw [cloB_iff, cloB_iff]
    simp only [h]
  cases h1 : cloB G bad L <;> cases h2 : cloB G bad L' <;> simp_all
theorem clo_reach {G : Gr} {bad L : List Nat} (h : cloB G bad L = true) {s t : Nat} (hs : s ∈ L) (r : Rch G s t) : t ∈ L :=
  r.stays (C := fun t => t ∈ L) (fun a w u ha hm => (cloB_iff.mp h).2.2 a ha (w, u) hm) hs
/-! ### lists of stands by bits -/
def sub (n b : Nat) : List Nat := (List.range n).filter fun s => b.testBit s
def bitsOf (p : Nat → Bool) : Nat → Nat
  | 0 => 0
  | k + 1 => bitsOf p k ||| (if p k then 2 ^ k else 0)
theorem bitsOf_lt (p : Nat → Bool) : ∀ n, bitsOf p n < 2 ^ n
  | 0 => Nat.one_pos
  | k + 1 => by
    have h1 : bitsOf p k < 2 ^ (k + 1) := Nat.lt_of_lt_of_le (bitsOf_lt p k) (Nat.pow_le_pow_right (by decide) (Nat.le_succ k))
    refine Nat.or_lt_two_pow h1 ?_
    split
    · exact Nat.pow_lt_pow_right (by decide) (Nat.lt_succ_self k)
    · exact Nat.two_pow_pos _
theorem bitsOf_bit (p : Nat → Bool) (j : Nat) : ∀ n, (bitsOf p n).testBit j = (decide (j < n) && p j)
  | 0 => by simp [bitsOf]
  | k + 1 => by
    show (bitsOf p k ||| (if p k then 2 ^ k else 0)).testBit j = _
    rw [Nat.testBit_or, bitsOf_bit p j k]
    by_cases e : j = k
    · subst e
      cases h : p j <;> simp [h, Nat.testBit_two_pow]
    · have h1 : (if p k = true then 2 ^ k else 0).testBit j = false := by
        split
        · rw [Nat.testBit_two_pow]
          simp
          omega
        · simp
      rw [h1, Bool.or_false]
      congr 1
      by_cases h : j < k
      · rw [decide_eq_true h, decide_eq_true (Nat.lt_succ_of_lt h)]
      · rw [decide_eq_false h, decide_eq_false (by omega)]
theorem sub_bitsOf (p : Nat → Bool) (n : Nat) : sub n (bitsOf p n) = (List.range n).filter p := by
  unfold sub
  refine List.filter_congr fun s hs => ?_
  rw [bitsOf_bit, decide_eq_true (List.mem_range.mp hs), Bool.true_and]
/-- the closed lists, in the order of their bits -/
def closedL (G : Gr) (bad : List Nat) : List (List Nat) := ((List.range (2 ^ G.length)).map (sub G.length)).filter fun L => cloB G bad L
theorem mem_closed {G : Gr} {bad : List Nat} {p : Nat → Bool} (h : cloB G bad ((List.range G.length).filter p) = true) : (List.range G.length).filter p ∈ closedL G bad :=
  List.mem_filter.mpr ⟨List.mem_map.mpr ⟨bitsOf p G.length, List.mem_range.mpr (bitsOf_lt p _), sub_bitsOf p _⟩, h⟩
theorem closed_is {G : Gr} {bad L : List Nat} (h : L ∈ closedL G bad) : cloB G bad L = true := (List.mem_filter.mp h).2
theorem closed_sub {G : Gr} {bad L : List Nat} (h : L ∈ closedL G bad) : ∃ b, L = sub G.length b := by
  obtain ⟨b, _, e⟩ := List.mem_map.mp (List.mem_filter.mp h).1
  exact ⟨b, e.symm⟩
/-- what is reached, ascending -/
def reachL (G : Gr) : List Nat := (List.range G.length).filter fun s => decide (s ∈ (bfs G).map (·.1))
theorem mem_reachL {G : Gr} (ok : GrOk G) {s : Nat} : s ∈ reachL G ↔ Rch G 0 s := by
  unfold reachL
  rw [List.mem_filter, List.mem_range]
  constructor
  · rintro ⟨_, q⟩
    exact (bfs_keys ok s).mp (of_decide_eq_true q)
  · intro r
    exact ⟨r.lt ok ok.pos, decide_eq_true ((bfs_keys ok s).mpr r)⟩
theorem reach_clo {G : Gr} (ok : GrOk G) {bad : List Nat} (h : brk G bad = []) : cloB G bad (reachL G) = true := by
  have hb := (brk_nil ok).mp h
  refine cloB_iff.mpr ⟨(mem_reachL ok).mpr (.refl 0), fun s hs => hb s ((mem_reachL ok).mp hs), fun s hs m hm => (mem_reachL ok).mpr (.step ((mem_reachL ok).mp hs) hm)⟩
/-- one of both is there -/
theorem closed_nil {G : Gr} (ok : GrOk G) {bad : List Nat} : closedL G bad = [] ↔ brk G bad ≠ [] := by
  constructor
  · intro h hb
    have := mem_closed (reach_clo ok hb)
    rw [h] at this
    cases this
  · intro h
    cases e : closedL G bad with
    | nil => rfl
    | cons L r =>
      have hL := closed_is (L := L) (G := G) (bad := bad) (by rw [e]; exact List.mem_cons_self)
      exfalso
      apply h
      refine (brk_nil ok).mpr fun s hs => (cloB_iff.mp hL).2.1 s (clo_reach hL (cloB_iff.mp hL).1 hs)
theorem closed_has {G : Gr} (ok : GrOk G) {bad L : List Nat} (h : L ∈ closedL G bad) {s : Nat} (hs : s ∈ (bfs G).map (·.1)) : s ∈ L :=
  clo_reach (closed_is h) (cloB_iff.mp (closed_is h)).1 ((bfs_keys ok s).mp hs)
theorem closed_some {G : Gr} (ok : GrOk G) {bad : List Nat} (h : closedL G bad ≠ []) : reachL G ∈ closedL G bad := by
  refine mem_closed (reach_clo ok ?_)
  cases e : brk G bad with
  | nil => rfl
  | cons a r => exact absurd ((closed_nil ok).mpr (by rw [e]; exact List.cons_ne_nil _ _)) h
theorem closed_safe {G : Gr} (ok : GrOk G) {bad : List Nat} (h : closedL G bad ≠ []) : safe G bad ∈ closedL G bad := by
  have hr := closed_is (closed_some ok h)
  have hb : ∀ s, Rch G 0 s → s ∉ bad := fun s r => (cloB_iff.mp hr).2.1 s ((mem_reachL ok).mpr r)
  refine mem_closed (cloB_iff.mpr ⟨mem_safe.mpr ⟨ok.pos, fun b hb' r => hb b r hb'⟩, fun s hs hsb => (mem_safe.mp hs).2 s hsb (.refl s), fun s hs m hm => mem_safe.mpr ⟨ok.to s m.1 m.2 hm, fun b hb' r => (mem_safe.mp hs).2 b hb' (Rch.head hm r)⟩⟩)
theorem closed_in_safe {G : Gr} (ok : GrOk G) {bad L : List Nat} (h : L ∈ closedL G bad) {s : Nat} (hs : s ∈ L) : s ∈ safe G bad := by
  have hL := closed_is h
  refine mem_safe.mpr ⟨?_, fun b hb r => (cloB_iff.mp hL).2.1 b (clo_reach hL hs r) hb⟩
  obtain ⟨b, e⟩ := closed_sub h
  rw [e] at hs
  exact List.mem_range.mp (List.mem_filter.mp hs).1
theorem closed_zero {G : Gr} {bad L : List Nat} (h : L ∈ closedL G bad) : 0 ∈ L := (cloB_iff.mp (closed_is h)).1
/-! ### going back from bad stands -/
theorem back_all {G : Gr} {B : Nat → Prop} (hb : ∀ t w u, (w, u) ∈ row G t → B u → B t) {s u : Nat} (r : Rch G s u) : B u → B s := by
  induction r with
  | refl => exact id
  | step _ m ih => exact fun h => ih (hb _ _ _ m h)
/-- a list of ints ascending is the one -/
theorem asc_filter {n : Nat} {p : Nat → Bool} {l : List Int} (hp : l.Pairwise (· ≤ ·)) (hm : l.Perm (((List.range n).filter p).map Int.ofNat)) : l = ((List.range n).filter p).map Int.ofNat := by
  refine hm.eq_of_pairwise (fun x y _ _ h1 h2 => Int.le_antisymm h1 h2) hp ?_
  rw [List.pairwise_map]
  refine List.Pairwise.imp (fun h => ?_) (List.Pairwise.filter p (List.pairwise_lt_range (n := n)))
  exact Int.ofNat_le.mpr (Nat.le_of_lt h)
end FF
set_option maxHeartbeats 4000000
/-! what all defs' proofs share -/
namespace FF
open PySem PySem.Spec PyProof.Rows L2
/-! ### defs by their names -/
/-- the def x stands where the module says -/
structure Df (K : PySem.W.Frag) (mg : Str → Option Value) (x : Str) (st : Stmt) : Prop where
  f : ∃ fd, FnP K x st (He.ga K x) fd
  g : mg x = some (.ref (He.ga K x))
/-- the def x keeps a promise -/
structure Cal (w : World) (K : PySem.W.Frag) (mg : Str → Option Value) (base : Heap) (CX : CXT) (k : Nat) (x : Str) (ps : List Str) (sp : Sp) : Prop where
  f : ∃ fd, FnOk Pg w K mg base CX k (He.ga K x) fd ps sp ∧ L2.Binds K fd ps []
  g : mg x = some (.ref (He.ga K x))
  kp : PySem.W.keepIn K (.ref (He.ga K x)) = true
section
variable {w : World} {K : PySem.W.Frag} {mg : Str → Option Value} {base : Heap} {CX : CXT} {k j : Nat} {x : Str} {ps : List Str} {sp sp' : Sp} {st : Stmt}
theorem Cal.mono (C : Cal w K mg base CX j x ps sp) (h : j ≤ k) : Cal w K mg base CX k x ps sp := ⟨let ⟨fd, F, b⟩ := C.f; ⟨fd, F.mono h, b⟩, C.g, C.kp⟩
theorem Cal.imp (C : Cal w K mg base CX k x ps sp) (h : ∀ vs H Q E, sp' vs H Q E → sp vs H Q E) : Cal w K mg base CX k x ps sp' := ⟨let ⟨fd, F, b⟩ := C.f; ⟨fd, F.imp h, b⟩, C.g, C.kp⟩
/-- from a def's body -/
theorem Df.ok {N : List Str} (D : Df K mg x st) (S : FnScope N ps (defScope st)) (len : ∀ vs H Q E, sp vs H Q E → vs.length = ps.length)
    (hb : ∀ (kV doc pm : Value) (an : Option Addr) (cdv ct : Value) (us : List Value), us.length = ps.length → bindArgs (PySem.W.fnOf x x (defArgs st) (defBody st) (defScope st) .none kV doc pm an cdv ct) ⟨us, []⟩ = pure (ps.zip us))
    (hbody : ∀ (cdv : Value) (A : Around) (outer : List Env) (s : Shared) (H : Hp) (vs : List V) (Q : VK) (E : XK), Room k (A.deeper (envOfC x (defScope st) s.heap.objs.size (He.ga K x) cdv)) → sp vs H Q E →
      ∃ t, PSs (cxOf CX Pg w K mg base N x (defScope st) (He.ga K x) cdv A outer s H E) (defBody st) t ∧ t { nx := fun _ H' => Q .non H', rt := Q } (start N vs) H) : Cal w K mg base CX (k + 1) x ps sp := by
  obtain ⟨fd, F⟩ := D.f
  exact ⟨⟨fd, F.ok S len hbody, F.bindsN hb⟩, D.g, F.kp⟩
/-- nothing is promised: where a recursion ends -/
theorem Df.nil (D : Df K mg x st) (hb : ∀ (kV doc pm : Value) (an : Option Addr) (cdv ct : Value) (us : List Value), us.length = ps.length → bindArgs (PySem.W.fnOf x x (defArgs st) (defBody st) (defScope st) .none kV doc pm an cdv ct) ⟨us, []⟩ = pure (ps.zip us)) :
    Cal w K mg base CX k x ps (fun _ _ _ _ => False) := by
  obtain ⟨fd, F⟩ := D.f
  exact ⟨⟨fd, ⟨fun _ _ _ _ h => h.elim, fun _ _ _ _ _ _ _ _ _ _ _ _ _ h => h.elim⟩, F.bindsN hb⟩, D.g, F.kp⟩
end
section
variable {X : Cx} {CX : CXT} {k : Nat} {x : Str} {ps : List Str} {sp : Sp} {E : XK} {e : Expr} {es : List Expr} {t : TA} {p pos : Pos}
/-- x(e, ..) -/
theorem pe_cal (hP : X.prog = Pg) (C : Cal X.w X.K X.mg X.base CX k x ps sp) (hr : Room k X.A) (hx : Passes CX X E) (ha : PA X (e :: es) t) (hg : Gl X x := by rfl) (hdb : (x == ("__debug__" : Str)) = false := by decide)
    (he : starEach (e :: es) X.env = (false, eval e X.env) :: starEach es X.env := by rfl) (hpl : (backTo pos (starEach es X.env)).any (·.1) = false := by rfl) : PE X (.Call (.Name x p) (e :: es) [] pos) (tCall sp [] E t) := by
  obtain ⟨fd, F, b⟩ := C.f
  rw [← hP] at F
  exact pe_call F hr hg C.g C.kp b .nil hx ha hdb he hpl
end
/-- a built-in type as a value -/
theorem pe_tyN {X : Cx} {x : Str} {pos : Pos} {T : String} (hg : Gl X x) (hm : X.mg x = none) (hv : bootBuiltins x = some (.type T)) (hn : x ≠ "__name__" := by decide) (hd : (x == ("__debug__" : Str)) = false := by decide) : PE X (.Name x pos) (tC (.ty T)) :=
  pe_bltn hg hm hv rfl hn hd
theorem pe_globS {X : Cx} {x z : Str} {pos : Pos} {t : Tok} (hg : Gl X x) (hm : X.mg x = some (.str z t)) (hd : (x == ("__debug__" : Str)) = false := by decide) : PE X (.Name x pos) (tC (.str z)) := pe_glob hg hm ⟨t, rfl⟩ hd
/-! ### what the module's top leaves of the names -/
structure Tx (K : PySem.W.Frag) (mg : Str → Option Value) : Prop where
  n_len : mg "len" = none
  n_isinstance : mg "isinstance" = none
  n_list : mg "list" = none
  n_tuple : mg "tuple" = none
  n_int : mg "int" = none
  n_bool : mg "bool" = none
  n_str : mg "str" = none
  n_dict : mg "dict" = none
  n_all : mg "all" = none
  n_any : mg "any" = none
  n_sorted : mg "sorted" = none
  n_enumerate : mg "enumerate" = none
  n_range : mg "range" = none
  n_zip : mg "zip" = none
  n_min : mg "min" = none
  small : ∃ t, mg "SMALL" = some (.str "abcdefghijklmnopqrstuvwxyz" t)
  figures : ∃ t, mg "FIGURES" = some (.str "0123456789" t)
/-! ### what is read stays to be read -/
def Leq (H H' : Hp) : Prop := ∀ b u, Rd H b u → Rd H' b u
theorem Leq.refl (H : Hp) : Leq H H := fun _ _ h => h
theorem Leq.trans {H H1 H2 : Hp} (a : Leq H H1) (b : Leq H1 H2) : Leq H H2 := fun c u h => b c u (a c u h)
theorem Same.leq {H H' : Hp} (e : Same H H') : Leq H H' := fun b u h => h.elim (fun q => .inl (e b u q)) fun ⟨o, q⟩ => .inr ⟨o, e b _ q⟩
theorem Same.new {H : Hp} {p : Addr} {o : HO} (h : H p = none) : Same H (upd H p o) := fun b u q => by rw [upd_ne (ne_of_none q h)]; exact q
theorem Same.then {H H1 : Hp} {p : Addr} {o : HO} (e : Same H H1) (h : H1 p = none) : Same H (upd H1 p o) := Same.trans e (Same.new h)
theorem Same.over {H H1 : Hp} {p : Addr} {o : HO} (e : Same H H1) (h : H p = none) : Same H (upd H1 p o) := fun b u q => by rw [upd_ne (ne_of_none q h)]; exact e b u q
/-- a lock -/
theorem Leq.lock {H : Hp} {d : Addr} {o : Obj} {u : HO} (h : H d = some u) (hf : ∀ o' u', u ≠ .frz o' u') : Leq H (upd H d (.frz o u)) := fun b v r => by
  by_cases e : b = d
  · subst e
    rcases r with r | ⟨o', r⟩
    · rw [h] at r
      cases r
      exact .inr ⟨o, upd_same⟩
    · rw [h] at r
      exact absurd (Option.some.inj r) (hf _ _)
  · rcases r with r | ⟨o', r⟩
    · exact .inl (by rw [upd_ne e]; exact r)
    · exact .inr ⟨o', by rw [upd_ne e]; exact r⟩
/-- behind a locked stretch -/
theorem Same.unlock {H H' : Hp} {d : Addr} {o : Obj} {u : HO} (h : H d = some u) (e : Same (upd H d (.frz o u)) H') : Same H (upd H' d u) := fun b v q => by
  by_cases c : b = d
  · subst c
    rw [upd_same, ← h]
    exact q
  · rw [upd_ne c]
    exact e b v (by rw [upd_ne c]; exact q)
theorem SqL.leq {K : PySem.W.Frag} {H H' : Hp} {a : Addr} {xs : List V} (e : Leq H H') (h : SqL K H a xs) : SqL K H' a xs := h.elim (fun q => .inl (e _ _ q)) .inr
theorem SqT.leq {K : PySem.W.Frag} {H H' : Hp} {a : Addr} {xs : List V} (e : Leq H H') (h : SqT K H a xs) : SqT K H' a xs := h.elim (fun q => .inl (e _ _ q)) .inr
mutual
theorem Dp.leq {K : PySem.W.Frag} {H H' : Hp} (e : Leq H H') : ∀ (d : PyData) (v : V), Dp K H v d → Dp K H' v d
  | _, _, .non => .non
  | _, _, .bl b => .bl b
  | _, _, .int i => .int i
  | _, _, .str x => .str x
  | .list ds, _, .lst h a => .lst (SqL.leq e h) (DpAll.leq e ds _ a)
  | .tuple ds, _, .tup h a => .tup (SqT.leq e h) (DpAll.leq e ds _ a)
theorem DpAll.leq {K : PySem.W.Frag} {H H' : Hp} (e : Leq H H') : ∀ (ds : List PyData) (vs : List V), DpAll K H vs ds → DpAll K H' vs ds
  | _, _, .nil => .nil
  | d :: ds, _, .cons a b => .cons (Dp.leq e d _ a) (DpAll.leq e ds _ b)
end
theorem WdAt.leq {K : PySem.W.Frag} {H H' : Hp} {v : V} {k : NestedKey} (e : Leq H H') (h : WdAt K H v k) : WdAt K H' v k := ⟨Dp.leq e _ _ h.1, h.2⟩
theorem WD.same {K : PySem.W.Frag} {w : World} {H H' : Hp} {d : Addr} {es : List Ent} (e : Same H H') (h : WD K w H d es) : WD K w H' d es := ⟨let ⟨ep, q⟩ := h.1; ⟨ep, e _ _ q⟩, fun x hx => WdAt.leq (Same.leq e) (h.2 x hx)⟩
/-! ### words live on tuples alone, which never change -/
def Tle (H H' : Hp) : Prop := ∀ b xs, Rd H b (.tup xs) → Rd H' b (.tup xs)
theorem Leq.tle {H H' : Hp} (e : Leq H H') : Tle H H' := fun b xs h => e b _ h
theorem Same.tle {H H' : Hp} (e : Same H H') : Tle H H' := Leq.tle (Same.leq e)
theorem Tle.refl (H : Hp) : Tle H H := fun _ _ h => h
theorem Tle.trans {H H1 H2 : Hp} (a : Tle H H1) (b : Tle H1 H2) : Tle H H2 := fun c xs h => b c xs (a c xs h)
/-- an object that is no tuple is changed -/
theorem Tle.upd {H : Hp} {p : Addr} {o : HO} (h : ∀ xs, ¬ Rd H p (.tup xs)) : Tle H (L2.upd H p o) := fun b xs r => by
  have ne : b ≠ p := fun e => h xs (e ▸ r)
  rcases r with r | ⟨o', r⟩
  · exact .inl (by rw [upd_ne ne]; exact r)
  · exact .inr ⟨o', by rw [upd_ne ne]; exact r⟩
theorem Tle.but {H H' : Hp} {p : Addr} {o : HO} (hp : H p = some o) (ho : ∀ xs, o ≠ .tup xs) (hf : ∀ o' u, o ≠ .frz o' u) (h : ∀ b u, b ≠ p → H b = some u → H' b = some u) : Tle H H' := fun b xs r => by
  have ne : b ≠ p := fun e => by
    subst e
    rcases r with r | ⟨o', r⟩
    · rw [hp] at r
      exact ho xs (Option.some.inj r)
    · rw [hp] at r
      exact hf _ _ (Option.some.inj r)
  exact r.elim (fun q => .inl (h b _ ne q)) fun ⟨o', q⟩ => .inr ⟨o', h b _ ne q⟩
theorem SqT.tle {K : PySem.W.Frag} {H H' : Hp} {a : Addr} {xs : List V} (e : Tle H H') (h : SqT K H a xs) : SqT K H' a xs := h.elim (fun q => .inl (e _ _ q)) .inr
mutual
theorem word_tle {K : PySem.W.Frag} {H H' : Hp} (e : Tle H H') : ∀ (k : NestedKey) (v : V), Dp K H v k.data → Dp K H' v k.data
  | .none, _, h => by
    simp only [NestedKey.data] at h ⊢
    cases h
    exact .non
  | .num i, _, h => by
    simp only [NestedKey.data] at h ⊢
    cases h
    exact .int i
  | .text x, _, h => by
    simp only [NestedKey.data] at h ⊢
    cases h
    exact .str x
  | .tup ks, _, h => by
    simp only [NestedKey.data] at h ⊢
    cases h with
    | tup h1 h2 => exact .tup (SqT.tle e h1) (words_tle e ks _ h2)
theorem words_tle {K : PySem.W.Frag} {H H' : Hp} (e : Tle H H') : ∀ (ks : List NestedKey) (vs : List V), DpAll K H vs (NestedKey.datas ks) → DpAll K H' vs (NestedKey.datas ks)
  | [], _, h => by
    simp only [NestedKey.datas] at h ⊢
    cases h
    exact .nil
  | k :: ks, _, h => by
    simp only [NestedKey.datas] at h ⊢
    cases h with
    | cons h1 h2 => exact .cons (word_tle e k _ h1) (words_tle e ks _ h2)
end
theorem WdAt.tle {K : PySem.W.Frag} {H H' : Hp} {v : V} {k : NestedKey} (e : Tle H H') (h : WdAt K H v k) : WdAt K H' v k := ⟨word_tle e _ _ h.1, h.2⟩
/-! ### the heap without one object -/
def hide (D : Addr) (H : Hp) : Hp := fun b => if b = D then none else H b
theorem hide_same {D : Addr} {H H' : Hp} (h : ∀ b o, b ≠ D → H b = some o → H' b = some o) : Same (hide D H) (hide D H') := fun b o q => by
  unfold hide at q ⊢
  split at q
  · cases q
  · rename_i e
    rw [if_neg e]
    exact h b o e q
theorem hide_le {D : Addr} {H : Hp} : Same (hide D H) H := fun b o q => by
  unfold hide at q
  split at q
  · cases q
  · exact q
theorem hide_of {D : Addr} {H H' : Hp} (hD : H D = none) (s : Same H H') : Same H (hide D H') := fun b o q => by
  unfold hide
  rw [if_neg (ne_of_none q hD)]
  exact s b o q
/-! ### kinds of values -/
inductive Kd where
  | non | bl | int | str | lst | tup | dic
  deriving DecidableEq
def Kd.ty : Kd → String
  | .non => "NoneType" | .bl => "bool" | .int => "int" | .str => "str" | .lst => "list" | .tup => "tuple" | .dic => "dict"
inductive KdAt (K : PySem.W.Frag) (H : Hp) : V → Kd → Prop where
  | non : KdAt K H .non .non
  | bl (b : Bool) : KdAt K H (.bl b) .bl
  | int (i : Int) : KdAt K H (.int i) .int
  | str (x : Str) : KdAt K H (.str x) .str
  | lst {a : Addr} {xs : List V} (h : SqL K H a xs) : KdAt K H (.ref a) .lst
  | tup {a : Addr} {xs : List V} (h : SqT K H a xs) : KdAt K H (.ref a) .tup
  | dic {a : Addr} {kvs : List (Key × V)} (h : Rd H a (.dK kvs)) : KdAt K H (.ref a) .dic
theorem KdAt.leq {K : PySem.W.Frag} {H H' : Hp} {v : V} {k : Kd} (e : Leq H H') (h : KdAt K H v k) : KdAt K H' v k := by
  cases h with
  | non => exact .non
  | bl b => exact .bl b
  | int i => exact .int i
  | str x => exact .str x
  | lst h => exact .lst (SqL.leq e h)
  | tup h => exact .tup (SqT.leq e h)
  | dic h => exact .dic (e _ _ h)
theorem KdAt.ty {K : PySem.W.Frag} {H : Hp} {v : V} {k : Kd} (h : KdAt K H v k) : TyX K H v (.type k.ty) := by
  cases h with
  | non => exact .base .non
  | bl b => exact .base (.bl b)
  | int i => exact .base (.int i)
  | str x => exact .base (.str x)
  | lst h => exact h.elim (fun h => h.elim (fun q => .base (.lst q)) fun ⟨o, q⟩ => .base (.frz q)) fun ⟨o, _, _, q, c, _⟩ => .kList q c
  | tup h => exact h.elim (fun h => h.elim (fun q => .base (.tup q)) fun ⟨o, q⟩ => .fTuple q) fun ⟨o, _, _, q, c, _⟩ => .kTuple q c
  | dic h => exact h.elim (fun q => .base (.dK q)) fun ⟨o, q⟩ => .fDict q
def Kd.isa : Kd → String → Bool
  | .bl, T => T == "bool" || T == "int"
  | k, T => k.ty == T
theorem kit_isa (K : PySem.W.Frag) (k : Kd) {T : String} (h : T ∈ ["bool", "int", "str", "list", "tuple", "dict"]) : PySem.W.kitOne K (.type k.ty) (.type T) = some (k.isa T) := by
  simp only [List.mem_cons, List.not_mem_nil, or_false] at h
  rcases h with rfl | rfl | rfl | rfl | rfl | rfl <;> cases k <;> exact kit_ty (by decide +kernel)
/-- isinstance(x, T) -/
theorem isi_one {K : PySem.W.Frag} {H : Hp} {v : V} {k : Kd} (T : String) {Q : VK} (h : KdAt K H v k) (hT : T ∈ ["bool", "int", "str", "list", "tuple", "dict"]) (q : Q (.bl (k.isa T)) H) : rIsi K [v, .ty T] H Q :=
  ⟨v, .ty T, _, _, _, rfl, .ty T, h.ty, kit_isa K k hT, q⟩
theorem kit_any (K : PySem.W.Frag) (k : Kd) : ∀ (Ts : List String), (∀ T ∈ Ts, T ∈ ["bool", "int", "str", "list", "tuple", "dict"]) → PySem.W.kitAny K (.type k.ty) (Ts.map Value.type) = some (Ts.any k.isa)
  | [], _ => kitAny_nil
  | T :: Ts, h => by
    rw [List.map_cons, List.any_cons]
    refine kitAny_cons (kit_isa K k (h T List.mem_cons_self)) (fun e => ?_) fun e => by rw [e]; rfl
    rw [e, Bool.false_or]
    exact kit_any K k Ts fun S hS => h S (List.mem_cons_of_mem _ hS)
theorem cls_tys : ∀ Ts : List String, Paired ClsV (Ts.map V.ty) (Ts.map Value.type)
  | [] => .nil
  | T :: Ts => .cons (.ty T) (cls_tys Ts)
/-- isinstance(x, (T, ..)), the tuple just laid -/
theorem isi_any {K : PySem.W.Frag} {H : Hp} {v : V} {k : Kd} {p : Addr} (Ts : List String) {Q : VK} (h : KdAt K H v k) (hT : ∀ T ∈ Ts, T ∈ ["bool", "int", "str", "list", "tuple", "dict"]) (hp : H p = some (.tup (Ts.map V.ty))) (q : Q (.bl (Ts.any k.isa)) H) : rIsiT K [v, .ref p] H Q :=
  ⟨v, p, _, _, _, _, rfl, hp, cls_tys Ts, h.ty, kit_any K k Ts hT, q⟩
end FF
/-! comprehensions whose turns only make objects -/
namespace FF
open PySem PySem.Spec PyProof.Rows L2
theorem take_snoc {α : Type} {l : List α} {i : Nat} {x : α} (h : l[i]? = some x) : l.take (i + 1) = l.take i ++ [x] := by
  rw [List.take_add_one, h]
  rfl
section
variable {J : It} {n : Nat} {G : Hp → Prop} {Y : Nat → Hp → V → Hp → Prop} {g : TG} {tt : TT} {te tk tv : TE} {vs : List Nat} {σ : L2.St} {H1 : Hp} {D : Addr} {Qd : Hp → Prop}
/-- the turn i gives fs[i]: an item, or nothing -/
theorem lc_fm (w : Walk J n G Y) (fs : List (Option V)) (hn : fs.length = n) (hz : n ≤ sizeLine) (hD : H1 D = none) (hG : ∀ H, Same H1 H → G H)
    (hs : ∀ (i : Nat) (o : Option V) (x : V) (H H' : Hp), fs[i]? = some o → Same H1 H → Y i H x H' → ∀ R : Option V → Hp → Prop, (∀ H'', Same H H'' → R o H'') →
      g x (wipe σ vs) H' fun σ2 H2 => wipe σ2 vs = wipe σ vs ∧ tt σ2 H2 fun b H3 => if b = true then te σ2 H3 fun y H4 => R (some y) H4 else R none H3)
    (hd : ∀ H, Same H1 H → H D = some (.lst (fs.filterMap id)) → Qd H) :
    ∃ W : Nat → Nat → Hp → Prop, (∃ m, W 0 m (upd H1 D (.lst []))) ∧ ∀ i m H, W i m H →
      (J.stop i H ∧ Qd H) ∨ (J.go i H ∧ ∃ Nx : Hp → Prop, (∀ H', Nx H' → ∃ m', m' < m ∧ W (i + 1) m' H') ∧ ∀ x H', J.yld i H x H' → g x (wipe σ vs) H' fun σ2 H2 => wipe σ2 vs = wipe σ vs ∧ tt σ2 H2 fun b H3 =>
        if b = true then te σ2 H3 fun y H4 => ∃ acc, H4 D = some (.lst acc) ∧ acc.length < sizeLine ∧ Nx (upd H4 D (.lst (acc ++ [y]))) else Nx H3) := by
  refine lc_it w (fun i H => Same H1 H ∧ H D = some (.lst ((fs.take i).filterMap id))) ⟨Same.new hD, upd_same⟩ (fun i H _ h => hG H h.1) (fun i x H H' hi ⟨sm, hd'⟩ hy => ?_) fun H ⟨sm, h⟩ => hd H sm (by rw [h, List.take_of_length_le (by omega)])
  obtain ⟨o, ho⟩ : ∃ o, fs[i]? = some o := ⟨_, List.getElem?_eq_getElem (by omega)⟩
  have hl : ((fs.take i).filterMap id).length < sizeLine := Nat.lt_of_le_of_lt (List.length_filterMap_le _ _) (by rw [List.length_take]; omega)
  refine hs i o x H H' ho sm hy (fun o' H4 => match o' with | some y => ∃ acc, H4 D = some (.lst acc) ∧ acc.length < sizeLine ∧ (Same H1 (upd H4 D (.lst (acc ++ [y]))) ∧ (upd H4 D (.lst (acc ++ [y]))) D = some (.lst ((fs.take (i + 1)).filterMap id))) | none => Same H1 H4 ∧ H4 D = some (.lst ((fs.take (i + 1)).filterMap id))) fun H'' s2 => ?_
  have s3 := Same.trans sm s2
  rw [take_snoc ho, List.filterMap_append]
  cases o with
  | none => exact ⟨s3, by rw [s2 D _ hd']; simp⟩
  | some y => exact ⟨_, s2 D _ hd', hl, fun b u q => by rw [upd_ne (ne_of_none q hD)]; exact s3 b u q, by rw [upd_same]; simp⟩
/-- the turn i gives some value; I: what holds of the values made so far -/
theorem lc_ex (w : Walk J n G Y) (hz : n ≤ sizeLine) (hD : H1 D = none) (hG : ∀ H, Same H1 H → G H) (I : List V → Hp → Prop) (hI : ∀ zs H H', (∃ acc, H D = some (.lst acc)) → (∀ b o, b ≠ D → H b = some o → H' b = some o) → I zs H → I zs H') (hI0 : ∀ H, Same H1 H → I [] H)
    (hs : ∀ (i : Nat) (x : V) (H H' : Hp) (zs : List V), i < n → Same H1 H → zs.length = i → I zs H → Y i H x H' → ∀ R : V → Hp → Prop, (∀ z H'', Same H H'' → I (zs ++ [z]) H'' → R z H'') →
      g x (wipe σ vs) H' fun σ2 H2 => wipe σ2 vs = wipe σ vs ∧ tYes σ2 H2 fun b H3 => if b = true then te σ2 H3 R else False)
    (hd : ∀ H zs, Same H1 H → zs.length = n → I zs H → H D = some (.lst zs) → Qd H) (gm : ∀ x σ2 H2 (Q Q' : L2.St → Hp → Prop), (∀ s h, Q s h → Q' s h) → g x σ2 H2 Q → g x σ2 H2 Q') :
    ∃ W : Nat → Nat → Hp → Prop, (∃ m, W 0 m (upd H1 D (.lst []))) ∧ ∀ i m H, W i m H →
      (J.stop i H ∧ Qd H) ∨ (J.go i H ∧ ∃ Nx : Hp → Prop, (∀ H', Nx H' → ∃ m', m' < m ∧ W (i + 1) m' H') ∧ ∀ x H', J.yld i H x H' → g x (wipe σ vs) H' fun σ2 H2 => wipe σ2 vs = wipe σ vs ∧ tYes σ2 H2 fun b H3 =>
        if b = true then te σ2 H3 fun y H4 => ∃ acc, H4 D = some (.lst acc) ∧ acc.length < sizeLine ∧ Nx (upd H4 D (.lst (acc ++ [y]))) else Nx H3) := by
  refine lc_it w (fun i H => Same H1 H ∧ ∃ zs, zs.length = i ∧ I zs H ∧ H D = some (.lst zs)) ⟨Same.new hD, [], rfl, hI0 _ (Same.new hD), upd_same⟩ (fun i H _ h => hG H h.1) (fun i x H H' hi ⟨sm, zs, hl, hi', hd'⟩ hy => ?_)
    fun H ⟨sm, zs, hl, h1, h2⟩ => hd H zs sm hl h1 h2
  refine gm _ _ _ _ _ (fun σ2 H2 ⟨e, q⟩ => ⟨e, q⟩) (hs i x H H' zs hi sm hl hi' hy (fun y H4 => ∃ acc, H4 D = some (.lst acc) ∧ acc.length < sizeLine ∧ (Same H1 (upd H4 D (.lst (acc ++ [y]))) ∧ ∃ zs', zs'.length = i + 1 ∧ I zs' (upd H4 D (.lst (acc ++ [y]))) ∧ (upd H4 D (.lst (acc ++ [y]))) D = some (.lst zs'))) fun z H'' s2 hz' => ?_)
  have s3 := Same.trans sm s2
  exact ⟨zs, s2 D _ hd', by omega, fun b u q => by rw [upd_ne (ne_of_none q hD)]; exact s3 b u q, zs ++ [z], by simp [hl], hI _ _ _ ⟨_, s2 D _ hd'⟩ (fun b o hb q => by rw [upd_ne hb]; exact q) hz', upd_same⟩
/-- a dict comprehension over what walks -/
theorem dc_it (w : Walk J n G Y) (Pv : Nat → Hp → Prop) (h0 : Pv 0 (upd H1 D (.dK []))) (hG : ∀ i H, i ≤ n → Pv i H → G H)
    (hs : ∀ i x H H', i < n → Pv i H → Y i H x H' → g x (wipe σ vs) H' fun σ2 H2 => wipe σ2 vs = wipe σ vs ∧ tt σ2 H2 fun b H3 =>
      if b = true then tk σ2 H3 fun y H4 => tv σ2 H4 fun z H5 => ∃ kvs k, y = kV k ∧ H5 D = some (.dK kvs) ∧ kvs.length < sizeLine ∧ Pv (i + 1) (upd H5 D (.dK (putK kvs k z))) else Pv (i + 1) H3) (hd : ∀ H, Pv n H → Qd H) :
    ∃ W : Nat → Nat → Hp → Prop, (∃ m, W 0 m (upd H1 D (.dK []))) ∧ ∀ i m H, W i m H →
      (J.stop i H ∧ Qd H) ∨ (J.go i H ∧ ∃ Nx : Hp → Prop, (∀ H', Nx H' → ∃ m', m' < m ∧ W (i + 1) m' H') ∧ ∀ x H', J.yld i H x H' → g x (wipe σ vs) H' fun σ2 H2 => wipe σ2 vs = wipe σ vs ∧ tt σ2 H2 fun b H3 =>
        if b = true then tk σ2 H3 fun y H4 => tv σ2 H4 fun z H5 => ∃ kvs k, y = kV k ∧ H5 D = some (.dK kvs) ∧ kvs.length < sizeLine ∧ Nx (upd H5 D (.dK (putK kvs k z))) else Nx H3) := by
  refine ⟨fun i m H => m + i = n ∧ Pv i H, ⟨n, by omega, h0⟩, fun i m H ⟨e, p⟩ => ?_⟩
  rcases Nat.lt_or_ge i n with hlt | hge
  · exact .inr ⟨w.goes i H hlt (hG i H (Nat.le_of_lt hlt) p), Pv (i + 1), fun H' p' => ⟨m - 1, by omega, by omega, p'⟩, fun x H' y => hs i x H H' hlt p (w.yields i H x H' hlt (hG i H (Nat.le_of_lt hlt) p) y)⟩
  · have : i = n := by omega
    subst this
    exact .inl ⟨w.stops H (hG i H (Nat.le_refl _) p), hd H p⟩
theorem valV_zip {ks : List Key} {zs : List V} {k : Key} (h : k ∉ ks) : valV (ks.zip zs) k = none := by
  cases e : valV (ks.zip zs) k with
  | none => rfl
  | some v =>
    obtain ⟨p, hp, e1⟩ := List.mem_map.mp (valV_in e)
    exact absurd (e1 ▸ (List.of_mem_zip (a := p.1) (b := p.2) hp).1) h
/-- the turn i stores under ks[i]; I: what holds of the values made so far -/
theorem dc_fm (w : Walk J n G Y) (ks : List Key) (hn : ks.length = n) (nd : ks.Nodup) (hz : n ≤ sizeLine) (hD : H1 D = none) (hG : ∀ H, Same H1 H → G H) (I : List V → Hp → Prop)
    (hI : ∀ zs H H', (∃ kvs, H D = some (.dK kvs)) → (∀ b o, b ≠ D → H b = some o → H' b = some o) → I zs H → I zs H') (hI0 : ∀ H, Same H1 H → I [] H)
    (hs : ∀ (i : Nat) (k : Key) (x : V) (H H' : Hp) (zs : List V), ks[i]? = some k → Same H1 H → zs.length = i → I zs H → Y i H x H' → ∀ R : V → V → Hp → Prop, (∀ z H'', Same H H'' → I (zs ++ [z]) H'' → R (kV k) z H'') →
      g x (wipe σ vs) H' fun σ2 H2 => wipe σ2 vs = wipe σ vs ∧ tt σ2 H2 fun b H3 => if b = true then tk σ2 H3 fun y H4 => tv σ2 H4 fun z H5 => R y z H5 else False)
    (hd : ∀ H zs, Same H1 H → zs.length = n → I zs H → H D = some (.dK (ks.zip zs)) → Qd H) (mono : ∀ σ2 H2 (Q Q' : Bool → Hp → Prop), (∀ b H3, Q b H3 → Q' b H3) → tt σ2 H2 Q → tt σ2 H2 Q') (gm : ∀ x σ2 H2 (Q Q' : L2.St → Hp → Prop), (∀ s h, Q s h → Q' s h) → g x σ2 H2 Q → g x σ2 H2 Q') :
    ∃ W : Nat → Nat → Hp → Prop, (∃ m, W 0 m (upd H1 D (.dK []))) ∧ ∀ i m H, W i m H →
      (J.stop i H ∧ Qd H) ∨ (J.go i H ∧ ∃ Nx : Hp → Prop, (∀ H', Nx H' → ∃ m', m' < m ∧ W (i + 1) m' H') ∧ ∀ x H', J.yld i H x H' → g x (wipe σ vs) H' fun σ2 H2 => wipe σ2 vs = wipe σ vs ∧ tt σ2 H2 fun b H3 =>
        if b = true then tk σ2 H3 fun y H4 => tv σ2 H4 fun z H5 => ∃ kvs k, y = kV k ∧ H5 D = some (.dK kvs) ∧ kvs.length < sizeLine ∧ Nx (upd H5 D (.dK (putK kvs k z))) else Nx H3) := by
  refine dc_it w (fun i H => Same H1 H ∧ ∃ zs, zs.length = i ∧ I zs H ∧ H D = some (.dK ((ks.take i).zip zs))) ⟨Same.new hD, [], rfl, hI0 _ (Same.new hD), by rw [upd_same]; rfl⟩ (fun i H _ h => hG H h.1) (fun i x H H' hi ⟨sm, zs, hl, hi', hd'⟩ hy => ?_)
    fun H ⟨sm, zs, hl, h1, h2⟩ => hd H zs sm hl h1 (by rw [h2, List.take_of_length_le (by omega)])
  obtain ⟨k, hk⟩ : ∃ k, ks[i]? = some k := ⟨_, List.getElem?_eq_getElem (by omega)⟩
  refine gm _ _ _ _ _ (fun σ2 H2 ⟨e, q⟩ => ⟨e, mono _ _ _ _ (fun b H3 q => ?_) q⟩) (hs i k x H H' zs hk sm hl hi' hy (fun y z H5 => ∃ kvs k', y = kV k' ∧ H5 D = some (.dK kvs) ∧ kvs.length < sizeLine ∧
    (Same H1 (upd H5 D (.dK (putK kvs k' z))) ∧ ∃ zs', zs'.length = i + 1 ∧ I zs' (upd H5 D (.dK (putK kvs k' z))) ∧ (upd H5 D (.dK (putK kvs k' z))) D = some (.dK ((ks.take (i + 1)).zip zs')))) fun z H'' s2 hz' => ?_)
  rotate_left
  · cases b with
    | true => exact q
    | false => exact absurd q (by simp)
  · have s3 := Same.trans sm s2
    have hkl : i < ks.length := by omega
    have hko : k ∉ ks.take i := fun hm => by
      obtain ⟨j, hj⟩ := List.mem_iff_getElem?.mp hm
      have hj' : j < i := by
        have := (List.getElem?_eq_some_iff.mp hj).1
        rw [List.length_take] at this
        omega
      rw [List.getElem?_take_of_lt hj'] at hj
      exact absurd ((List.getElem?_inj (by omega) nd).mp (hj.trans hk.symm)) (by omega)
    have hlz : (ks.take i).length = zs.length := by rw [List.length_take]; omega
    refine ⟨_, k, rfl, s2 D _ hd', ?_, fun b u q => by rw [upd_ne (ne_of_none q hD)]; exact s3 b u q, zs ++ [z], by simp [hl], hI _ _ _ ⟨_, s2 D _ hd'⟩ (fun b o hb q => by rw [upd_ne hb]; exact q) hz', ?_⟩
    · rw [List.length_zip, List.length_take]
      omega
    · rw [upd_same, putK_new z (valV_zip hko), take_snoc hk, List.zip_append hlz]
      rfl
theorem gName_mono {i : Nat} : ∀ x σ2 H2 (Q Q' : L2.St → Hp → Prop), (∀ s h, Q s h → Q' s h) → gName i x σ2 H2 Q → gName i x σ2 H2 Q' := fun _ _ _ _ _ h q => h _ _ q
theorem tYes_mono : ∀ σ2 H2 (Q Q' : Bool → Hp → Prop), (∀ b H3, Q b H3 → Q' b H3) → tYes σ2 H2 Q → tYes σ2 H2 Q' := fun _ _ _ _ h q => h _ _ q
end
end FF
namespace FF
open PySem PySem.Spec PyProof.Rows L2
section
variable {w : World} {K : PySem.W.Frag} {mg : Str → Option Value} {base : Heap}

def sp_is_list (K : PySem.W.Frag) (w : World) : Sp := fun vs H Q _ => ∃ x k, vs = [x] ∧ KdAt K H x k ∧ ∀ H', Same H H' → Q (.bl (k.isa "list" || k.isa "tuple")) H'

theorem sc_is_list : FnScope ["thing"] ["thing"] (defScope s_is_list) := ⟨rfl, rfl, rfl, by decide +kernel, rfl, by decide +kernel, by decide +kernel⟩
theorem ok_is_list (T : Tx K mg)  (D : Df K mg "is_list" s_is_list)  : Cal w K mg base CX0 1 "is_list" ["thing"] (sp_is_list K w) := by
  have nd := sc_is_list.nd
  refine D.ok (N := ["thing"]) sc_is_list (fun vs H Q E h => ?_) (fun _ _ _ _ _ _ us hl => match us, hl with | [_], _ => rfl) (fun cdv A outer s H vs Q E hr h => ?_)
  · obtain ⟨x, k, rfl, hk, q⟩ := h
    rfl
  · have hu := hu_of hr
    obtain ⟨x, k, rfl, hk, q⟩ := h
    refine ⟨_, PSs.nox (pss_one (ps_ret (pe_callB call_isiT (by rfl) T.n_isinstance (by decide +kernel) (pa_cons (pv 0) (pa_cons (pe_tup (pa_cons (pe_tyN (T := "list") (by rfl) T.n_list (by decide +kernel)) (pa_cons (pe_tyN (T := "tuple") (by rfl) T.n_tuple (by decide +kernel)) pa_nil))) pa_nil))))), ?_⟩
    refine ⟨_, rfl, (by decide : 2 ≤ sizeLine), fun p hp => ?_⟩
    refine isi_any ["list", "tuple"] (KdAt.leq (Same.leq (Same.new hp)) hk) (by decide) upd_same ?_
    have e := q _ (Same.new hp (o := .tup [.ty "list", .ty "tuple"]))
    simpa using e

def sp_is_integer (K : PySem.W.Frag) (w : World) : Sp := fun vs H Q _ => ∃ x k, vs = [x] ∧ KdAt K H x k ∧ Q (.bl (decide (k = .int))) H

theorem sc_is_integer : FnScope ["thing"] ["thing"] (defScope s_is_integer) := ⟨rfl, rfl, rfl, by decide +kernel, rfl, by decide +kernel, by decide +kernel⟩
theorem ok_is_integer (T : Tx K mg)  (D : Df K mg "is_integer" s_is_integer)  : Cal w K mg base CX0 1 "is_integer" ["thing"] (sp_is_integer K w) := by
  have nd := sc_is_integer.nd
  refine D.ok (N := ["thing"]) sc_is_integer (fun vs H Q E h => ?_) (fun _ _ _ _ _ _ us hl => match us, hl with | [_], _ => rfl) (fun cdv A outer s H vs Q E hr h => ?_)
  · obtain ⟨x, k, rfl, hk, q⟩ := h
    rfl
  · have hu := hu_of hr
    obtain ⟨x, k, rfl, hk, q⟩ := h
    refine ⟨_, PSs.nox (pss_one (ps_ret (pe_and (pe_callB call_isi (by rfl) T.n_isinstance (by decide +kernel) (pa_cons (pv 0) (pa_cons (pe_tyN (T := "int") (by rfl) T.n_int (by decide +kernel)) pa_nil))) (pe_one (pe_not (pe_callB call_isi (by rfl) T.n_isinstance (by decide +kernel) (pa_cons (pv 0) (pa_cons (pe_tyN (T := "bool") (by rfl) T.n_bool (by decide +kernel)) pa_nil)))))))), ?_⟩
    refine ⟨_, rfl, ?_⟩
    refine ⟨_, _, _, _, _, rfl, .ty _, hk.ty, kit_isa K _ (by decide), ?_⟩
    refine ⟨_, rfl, ?_⟩
    cases k
    all_goals first | exact iteF q | skip
    all_goals
      refine iteT ⟨_, rfl, ?_⟩
      refine ⟨_, _, _, _, _, rfl, .ty _, hk.ty, kit_isa K _ (by decide), ?_⟩
      exact ⟨_, rfl, q⟩

def numB : V → Bool
  | .int i => decide (0 ≤ i)
  | _ => false
def sp_is_number (K : PySem.W.Frag) (w : World) : Sp := fun vs H Q _ => ∃ x k, vs = [x] ∧ KdAt K H x k ∧ Q (.bl (numB x)) H

theorem sc_is_number : FnScope ["thing"] ["thing"] (defScope s_is_number) := ⟨rfl, rfl, rfl, by decide +kernel, rfl, by decide +kernel, by decide +kernel⟩
theorem ok_is_number (T : Tx K mg)  (D : Df K mg "is_number" s_is_number) (c_is_integer : Cal w K mg base CX0 1 "is_integer" ["thing"] (sp_is_integer K w)) : Cal w K mg base CX0 2 "is_number" ["thing"] (sp_is_number K w) := by
  have nd := sc_is_number.nd
  refine D.ok (N := ["thing"]) sc_is_number (fun vs H Q E h => ?_) (fun _ _ _ _ _ _ us hl => match us, hl with | [_], _ => rfl) (fun cdv A outer s H vs Q E hr h => ?_)
  · obtain ⟨x, k, rfl, hk, q⟩ := h
    rfl
  · have hu := hu_of hr
    obtain ⟨x, k, rfl, hk, q⟩ := h
    refine ⟨_, PSs.nox (pss_one (ps_ret (pe_and (pe_cal rfl c_is_integer (hr.mono (by first | decide | (simp only [Nat.add_eq]; omega))) pass0 (pa_cons (pv 0) pa_nil)) (pe_one (pe_cmpR op_ge (pv 0) pe_int (nomark _)))))), ?_⟩
    refine ⟨_, rfl, _, k, rfl, hk, _, rfl, ?_⟩
    cases hk with
    | int i => exact iteT ⟨_, rfl, _, _, rfl, rfl, q⟩
    | _ => exact iteF q

def standB (n : Nat) : V → Bool
  | .int i => decide (0 ≤ i) && decide (i < n)
  | _ => false
def sp_is_stand (K : PySem.W.Frag) (w : World) : Sp := fun vs H Q _ => ∃ x k n, vs = [x, .int (n : Nat)] ∧ KdAt K H x k ∧ Q (.bl (standB n x)) H

theorem sc_is_stand : FnScope ["thing", "many"] ["thing", "many"] (defScope s_is_stand) := ⟨rfl, rfl, rfl, by decide +kernel, rfl, by decide +kernel, by decide +kernel⟩
theorem ok_is_stand (T : Tx K mg)  (D : Df K mg "is_stand" s_is_stand) (c_is_number : Cal w K mg base CX0 2 "is_number" ["thing"] (sp_is_number K w)) : Cal w K mg base CX0 3 "is_stand" ["thing", "many"] (sp_is_stand K w) := by
  have nd := sc_is_stand.nd
  refine D.ok (N := ["thing", "many"]) sc_is_stand (fun vs H Q E h => ?_) (fun _ _ _ _ _ _ us hl => match us, hl with | [_, _], _ => rfl) (fun cdv A outer s H vs Q E hr h => ?_)
  · obtain ⟨x, k, n, rfl, hk, q⟩ := h
    rfl
  · have hu := hu_of hr
    obtain ⟨x, k, n, rfl, hk, q⟩ := h
    refine ⟨_, PSs.nox (pss_one (ps_ret (pe_and (pe_cal rfl c_is_number (hr.mono (by first | decide | (simp only [Nat.add_eq]; omega))) pass0 (pa_cons (pv 0) pa_nil)) (pe_one (pe_cmpR op_lt (pv 0) (pv 1) (nomark _)))))), ?_⟩
    refine ⟨_, rfl, _, k, rfl, hk, _, rfl, ?_⟩
    cases hk with
    | int i =>
      refine ite2 (fun h => ⟨_, rfl, _, rfl, _, _, rfl, rfl, ?_⟩) fun h => ?_
      · have e : numB (.int i) = true := h
        have e2 : standB n (.int i) = decide (i < n) := by
          show (decide (0 ≤ i) && decide (i < n)) = _
          rw [show decide (0 ≤ i) = true from e, Bool.true_and]
        rw [e2] at q
        exact q
      · have e : numB (.int i) = false := by simpa using h
        have e2 : standB n (.int i) = false := by
          show (decide (0 ≤ i) && decide (i < n)) = _
          rw [show decide (0 ≤ i) = false from e, Bool.false_and]
        rw [e2] at q
        exact q
    | _ => exact iteF q

end
end FF
namespace FF
open PySem PySem.Spec PyProof.Rows L2
section
variable {w : World} {K : PySem.W.Frag} {mg : Str → Option Value} {base : Heap}

abbrev SM : List Nat := ("abcdefghijklmnopqrstuvwxyz" : Str).cps.toList
abbrev FG : List Nat := ("0123456789" : Str).cps.toList
def signB (c : Nat) : Bool := decide (c ∈ SM) || decide (c ∈ FG)
def firstB : List Nat → Bool
  | [] => false
  | c :: _ => decide (c ∈ SM)
def nameS (z : Str) : Bool := (decide ((1 : Int) ≤ z.length) && decide ((z.length : Int) ≤ 12)) && (firstB z.cps.toList && z.cps.toList.all signB)
def nameV : V → Bool
  | .str z => nameS z
  | _ => false
def sp_is_name (K : PySem.W.Frag) (w : World) : Sp := fun vs H Q _ => ∃ x k, vs = [x] ∧ KdAt K H x k ∧ (∀ z, x = .str z → z.length ≤ sizeLine) ∧ ∀ H', Same H H' → Q (.bl (nameV x)) H'
theorem fm_some {α β : Type} (f : α → β) : ∀ l : List α, (l.map fun x => some (f x)).filterMap id = l.map f
  | [] => rfl
  | a :: l => by simp [fm_some f l]

theorem sc_is_name : FnScope ["thing", "sign"] ["thing"] (defScope s_is_name) := ⟨rfl, rfl, rfl, by decide +kernel, rfl, by decide +kernel, by decide +kernel⟩
theorem ok_is_name (T : Tx K mg)  (D : Df K mg "is_name" s_is_name)  : Cal w K mg base CX0 1 "is_name" ["thing"] (sp_is_name K w) := by
  have nd := sc_is_name.nd
  refine D.ok (N := ["thing", "sign"]) sc_is_name (fun vs H Q E h => ?_) (fun _ _ _ _ _ _ us hl => match us, hl with | [_], _ => rfl) (fun cdv A outer s H vs Q E hr h => ?_)
  · obtain ⟨x, k, rfl, hk, hl, q⟩ := h
    rfl
  · have hu := hu_of hr
    obtain ⟨_, smallG⟩ := T.small
    obtain ⟨_, figuresG⟩ := T.figures
    obtain ⟨x, k, rfl, hk, hl, q⟩ := h
    refine ⟨_, PSs.nox (pss_cons (ps_if (PW.pt (pw_or (pt_not (pt_val (pe_callB call_isi (by rfl) T.n_isinstance (by decide +kernel) (pa_cons (pv 0) (pa_cons (pe_tyN (T := "str") (by rfl) T.n_str (by decide +kernel)) pa_nil))))) (pw_or (pt_not (pt_chain op_le op_le pe_int (pe_callB call_len (by rfl) T.n_len (by decide +kernel) (pa_cons (pv 0) pa_nil)) pe_int)) (pw_or1 (pt_cmpR op_notIn_sign (pe_ix ix_str (pv 0) pe_int (fun _ _ => rfl)) (pe_globS rfl smallG) (by with_unfolding_all rfl)))))) (pss_one (ps_ret pe_bl)) pss_nil)
      (pss_one (ps_ret (pe_callB (cr_all rfl) (by rfl) T.n_all (by decide +kernel) (pa_cons (pe_lc (own := [("sign", 1)]) (by rfl) nd (pi_str (pv 0)) (blkOk_by (own := [("sign", 1)]) (N := ["thing", "sign"]) (sc := defScope s_is_name) (by decide +kernel)) (fun _ _ _ _ _ => (pg_name (i := 1) nd rfl (Or.inl rfl))) (fun _ _ _ _ _ => pts_nil) (fun _ _ _ _ _ => (pe_or (pe_cmpR op_in_sign (pv 1) (pe_globS rfl smallG) (by with_unfolding_all rfl)) (pe_one (pe_cmpR op_in_sign (pv 1) (pe_globS rfl figuresG) (by with_unfolding_all rfl)))))) pa_nil))))), ?_⟩
    have no : ∀ x, nameV x = false → (∀ H', Same H H' → Q (.bl (nameV x)) H') → Q (.bl false) H := fun x e q => e ▸ q H (Same.refl H)
    refine ⟨_, rfl, _, _, _, _, _, rfl, .ty _, hk.ty, kit_isa K _ (by decide), _, rfl, ?_⟩
    cases hk with
    | str z =>
      have hz := hl z rfl
      refine iteF ?_
      refine ⟨_, rfl, _, _, rfl, ⟨hz, rfl⟩, _, _, rfl, rfl, _, rfl, ?_⟩
      by_cases h1 : (1 : Int) ≤ z.length
      · rw [decide_eq_true h1]
        refine iteT ⟨_, _, rfl, rfl, _, rfl, ?_⟩
        by_cases h2 : (z.length : Int) ≤ 12
        · rw [decide_eq_true h2]
          refine iteF ?_
          obtain ⟨c, r, hc⟩ : ∃ c r, z.cps.toList = c :: r := by
            cases e : z.cps.toList with
            | cons c r => exact ⟨c, r, rfl⟩
            | nil =>
              have : z.length = 0 := by
                show z.cps.size = 0
                rw [← Array.length_toList, e]
                rfl
              omega
          refine ⟨_, rfl, _, _, c, rfl, rfl, hz, by rw [hc]; exact atI_nat (j := 0) rfl, c, _, rfl, rfl, _, rfl, ?_⟩
          by_cases h3 : c ∈ SM
          · rw [decide_eq_true h3]
            refine iteF ?_
            refine ⟨_, rfl, _, rfl, fun D hD => ?_⟩
            have hsz : z.cps.size = z.cps.toList.length := by simp
            refine lc_fm walk_str (z.cps.toList.map fun c => some (V.bl (signB c))) (by rw [List.length_map, ← hsz]) (by show z.length ≤ _; exact hz) hD (fun _ _ => trivial) (fun i o v H1 H2 ho sm ⟨e, c', hc', ev⟩ R hR => ?_) fun H1 sm hD' => ?_
            · subst e ev
              have ho' : o = some (V.bl (signB c')) := by
                rw [List.getElem?_map, Array.getElem?_toList, hc'] at ho
                exact (Option.some.inj ho).symm
              subst ho'
              refine ⟨rfl, _, rfl, c', _, rfl, rfl, _, rfl, ?_⟩
              by_cases h4 : c' ∈ SM
              · rw [decide_eq_true h4]
                refine iteT ?_
                have := hR H2 (Same.refl _)
                rw [show signB c' = true by unfold signB; rw [decide_eq_true h4]; rfl] at this
                exact this
              · rw [decide_eq_false h4]
                refine iteF ⟨_, rfl, c', _, rfl, rfl, ?_⟩
                have := hR H2 (Same.refl _)
                rw [show signB c' = decide (c' ∈ FG) by unfold signB; rw [decide_eq_false h4]; rfl] at this
                exact this
            · rw [fm_some] at hD'
              refine ⟨D, z.cps.toList.map signB, rfl, SqL.of (by rw [hD', List.map_map]; rfl), ?_⟩
              have e : (z.cps.toList.map signB).all id = nameV (.str z) := by
                show _ = nameS z
                unfold nameS
                rw [decide_eq_true h1, decide_eq_true h2, hc]
                show (List.map signB (c :: r)).all id = ((true && true) && (decide (c ∈ SM) && (c :: r).all signB))
                rw [decide_eq_true h3, List.all_map]
                rfl
              rw [e]
              exact q H1 sm
          · rw [decide_eq_false h3]
            refine iteT (no _ ?_ q)
            show nameS z = false
            unfold nameS
            rw [hc]
            show (_ && (decide (c ∈ SM) && _)) = false
            rw [decide_eq_false h3]
            simp
        · rw [decide_eq_false h2]
          refine iteT (no _ ?_ q)
          show nameS z = false
          unfold nameS
          rw [decide_eq_false h2]
          simp
      · rw [decide_eq_false h1]
        refine iteF ⟨_, rfl, iteT (no _ ?_ q)⟩
        show nameS z = false
        unfold nameS
        rw [decide_eq_false h1]
        simp
    | _ => exact iteT (no _ rfl q)

mutual
/-- ints, texts and tuples of such alone -/
def wordB : NestedKey → Bool
  | .none => false
  | .num _ => true
  | .text _ => true
  | .tup ks => decide (ks.length ≤ 1000) && wordsB ks
def wordsB : List NestedKey → Bool
  | [] => true
  | k :: ks => wordB k && wordsB ks
end
theorem dpAll_get {H : Hp} : ∀ {ks : List NestedKey} {xs : List V} {i : Nat} {x : V}, DpAll K H xs (NestedKey.datas ks) → xs[i]? = some x → ∃ k, ks[i]? = some k ∧ Dp K H x k.data
  | [], xs, i, x, h, e => by
    simp only [NestedKey.datas] at h
    cases h
    simp at e
  | k :: ks, xs, i, x, h, e => by
    simp only [NestedKey.datas] at h
    cases h with
    | cons h1 h2 =>
      cases i with
      | zero =>
        cases e
        exact ⟨k, rfl, h1⟩
      | succ i => exact dpAll_get (i := i) h2 (by simpa using e)
theorem dpAll_len {H : Hp} : ∀ {ks : List NestedKey} {xs : List V}, DpAll K H xs (NestedKey.datas ks) → xs.length = ks.length
  | [], xs, h => by
    simp only [NestedKey.datas] at h
    cases h
    rfl
  | k :: ks, xs, h => by
    simp only [NestedKey.datas] at h
    cases h with
    | cons h1 h2 => simp [dpAll_len h2]
theorem wordsB_get : ∀ {ks : List NestedKey} {i : Nat} {k : NestedKey}, wordsB ks = true → ks[i]? = some k → wordB k = true
  | [], i, k, _, e => by simp at e
  | k' :: ks, i, k, h, e => by
    have h' : (wordB k' && wordsB ks) = true := h
    rw [Bool.and_eq_true] at h'
    cases i with
    | zero =>
      cases e
      exact h'.1
    | succ i => exact wordsB_get (i := i) h'.2 (by simpa using e)
theorem depthAll_get : ∀ {ks : List NestedKey} {i : Nat} {k : NestedKey}, ks[i]? = some k → k.depth ≤ NestedKey.depthAll ks
  | [], i, k, e => by simp at e
  | k' :: ks, i, k, e => by
    simp only [NestedKey.depthAll]
    cases i with
    | zero =>
      cases e
      exact Nat.le_max_left _ _
    | succ i => exact Nat.le_trans (depthAll_get (i := i) (by simpa using e)) (Nat.le_max_right _ _)
/-- a tuple that is a word -/
theorem Dp.tupOf {H : Hp} {v : V} {ks : List NestedKey} (h : Dp K H v (NestedKey.tup ks).data) : ∃ a xs, v = .ref a ∧ SqT K H a xs ∧ DpAll K H xs (NestedKey.datas ks) := by
  simp only [NestedKey.data] at h
  cases h with
  | tup h1 h2 => exact ⟨_, _, rfl, h1, h2⟩
theorem Dp.numOf {H : Hp} {v : V} {i : Int} (h : Dp K H v (NestedKey.num i).data) : v = .int i := by
  simp only [NestedKey.data] at h
  cases h
  rfl
theorem Dp.textOf {H : Hp} {v : V} {x : Str} (h : Dp K H v (NestedKey.text x).data) : v = .str x := by
  simp only [NestedKey.data] at h
  cases h
  rfl
/-- words stand tracked: no tuple of the top is among them -/
def WTr (H : Hp) (v : V) : Prop := ∀ a, v = .ref a → ∃ xs, H a = some (.tup xs)

end
end FF
namespace FF
open PySem PySem.Spec PyProof.Rows L2
section
variable {w : World} {K : PySem.W.Frag} {mg : Str → Option Value} {base : Heap}

theorem word_kind {H : Hp} {v : V} {k : NestedKey} (h : Dp K H v k.data) (hw : wordB k = true) : (∃ i, k = .num i ∧ v = .int i) ∨ (∃ x, k = .text x ∧ v = .str x) ∨ ∃ ks a xs, k = .tup ks ∧ v = .ref a ∧ SqT K H a xs ∧ DpAll K H xs (NestedKey.datas ks) ∧ wordsB ks = true ∧ xs.length ≤ 1000 := by
  cases k with
  | none => cases hw
  | num i => exact .inl ⟨i, rfl, Dp.numOf h⟩
  | text x => exact .inr (.inl ⟨x, rfl, Dp.textOf h⟩)
  | tup ks =>
    obtain ⟨a, xs, h1, h2, h3⟩ := Dp.tupOf h
    have hw' : (decide (ks.length ≤ 1000) && wordsB ks) = true := hw
    rw [Bool.and_eq_true] at hw'
    exact .inr (.inr ⟨ks, a, xs, rfl, h1, h2, h3, hw'.2, by rw [dpAll_len h3]; exact of_decide_eq_true hw'.1⟩)
def sp_is_word (K : PySem.W.Frag) (w : World) (n : Nat) : Sp := fun vs H Q _ => ∃ v k, vs = [v] ∧ Dp K H v k.data ∧ wordB k = true ∧ k.depth < n ∧ ∀ H', Same H H' → Q (.bl true) H'

theorem sc_is_word : FnScope ["thing", "part"] ["thing"] (defScope s_is_word) := ⟨rfl, rfl, rfl, by decide +kernel, rfl, by decide +kernel, by decide +kernel⟩
theorem ok_is_word (T : Tx K mg)  (D : Df K mg "is_word" s_is_word) (c_is_integer : Cal w K mg base CX0 1 "is_integer" ["thing"] (sp_is_integer K w)) (c_is_list : Cal w K mg base CX0 1 "is_list" ["thing"] (sp_is_list K w)) : ∀ n, Cal w K mg base CX0 (5 + n) "is_word" ["thing"] ((sp_is_word K w) n) := by
  have nd := sc_is_word.nd
  intro n
  induction n with
  | zero => exact (D.nil (fun _ _ _ _ _ _ us hl => match us, hl with | [_], _ => rfl)).imp (fun _ _ _ _ ⟨_, _, _, _, _, h, _⟩ => absurd h (Nat.not_lt_zero _))
  | succ n c_is_word =>
  refine D.ok (N := ["thing", "part"]) sc_is_word (fun vs H Q E h => ?_) (fun _ _ _ _ _ _ us hl => match us, hl with | [_], _ => rfl) (fun cdv A outer s H vs Q E hr h => ?_)
  · obtain ⟨v, k, rfl, hv, hw, hd, q⟩ := h
    rfl
  · have hu := hu_of hr
    obtain ⟨v, k, rfl, hv, hw, hd, q⟩ := h
    refine ⟨_, PSs.nox (pss_one (ps_ret (pe_or (pe_cal rfl c_is_integer (hr.mono (by first | decide | (simp only [Nat.add_eq]; omega))) pass0 (pa_cons (pv 0) pa_nil)) (pe_or (pe_callB call_isi (by rfl) T.n_isinstance (by decide +kernel) (pa_cons (pv 0) (pa_cons (pe_tyN (T := "str") (by rfl) T.n_str (by decide +kernel)) pa_nil))) (pe_one (pe_and (pe_cal rfl c_is_list (hr.mono (by first | decide | (simp only [Nat.add_eq]; omega))) pass0 (pa_cons (pv 0) pa_nil)) (pe_one (pe_callB (cr_all rfl) (by rfl) T.n_all (by decide +kernel) (pa_cons (pe_lc (own := [("part", 1)]) (by rfl) nd (pi_tup (pv 0)) (blkOk_by (own := [("part", 1)]) (N := ["thing", "part"]) (sc := defScope s_is_word) (by decide +kernel)) (fun _ _ _ _ _ => (pg_name (i := 1) nd rfl (Or.inl rfl))) (fun _ _ _ _ _ => pts_nil) (fun _ _ _ _ _ => (pe_cal rfl c_is_word (hr.mono (by first | decide | (simp only [Nat.add_eq]; omega))) pass0 (pa_cons (pv 1) pa_nil)))) pa_nil))))))))), ?_⟩
    rcases word_kind hv hw with ⟨i, rfl, rfl⟩ | ⟨x, rfl, rfl⟩ | ⟨ks, a, xs, rfl, rfl, hs, ha, hws, hx1000⟩
    · exact ⟨_, rfl, _, _, rfl, .int i, _, rfl, q H (Same.refl H)⟩
    · exact ⟨_, rfl, _, _, rfl, .str x, _, rfl, _, rfl, _, _, _, _, _, rfl, .ty _, (KdAt.str (K := K) (H := H) x).ty, kit_isa K _ (by decide), _, rfl, q H (Same.refl H)⟩
    · refine ⟨_, rfl, _, _, rfl, .tup hs, _, rfl, _, rfl, _, _, _, _, _, rfl, .ty _, (KdAt.tup hs).ty, kit_isa K _ (by decide), _, rfl, ?_⟩
      refine ⟨_, rfl, _, _, rfl, .tup hs, fun H1 s1 => ⟨_, rfl, ?_⟩⟩
      refine ⟨_, rfl, a, rfl, ⟨_, SqT.leq (Same.leq s1) hs⟩, fun D hD => ?_⟩
      have hl := dpAll_len ha
      refine lc_fm walk_tup (xs.map fun _ => some (V.bl true)) (List.length_map ..) (Nat.le_of_lt (small1000 hx1000)) hD (fun H2 s2 => SqT.leq (Same.leq (Same.trans s1 s2)) hs) (fun i o x H2 H3 ho s2 ⟨e, hx⟩ R hR => ?_) fun H2 s2 hD' => ?_
      · subst e
        obtain ⟨k', hk', hv'⟩ := dpAll_get ha hx
        rw [List.getElem?_map, hx] at ho
        cases ho
        refine ⟨rfl, _, rfl, x, k', rfl, Dp.leq (Same.leq (Same.trans s1 s2)) _ _ hv', wordsB_get hws hk', ?_, fun H4 s4 => hR H4 s4⟩
        have := depthAll_get hk'
        simp only [NestedKey.depth] at hd
        omega
      · rw [fm_some] at hD'
        refine ⟨D, xs.map fun _ => true, rfl, SqL.of (by rw [hD', List.map_map]; rfl), ?_⟩
        rw [show (xs.map fun _ => true).all id = true by simp]
        exact q H2 (Same.trans s1 s2)

def sp_as_word (K : PySem.W.Frag) (w : World) (n : Nat) : Sp := fun vs H Q _ => ∃ v k, vs = [v] ∧ Dp K H v k.data ∧ wordB k = true ∧ k.depth < n ∧ ∀ v' H', Same H H' → Dp K H' v' k.data → Q v' H'
theorem dpAll_snoc {H : Hp} : ∀ {xs : List V} {ds : List PyData} {x : V} {d : PyData}, DpAll K H xs ds → Dp K H x d → DpAll K H (xs ++ [x]) (ds ++ [d])
  | _, _, _, _, .nil, h => .cons h .nil
  | _, _, _, _, .cons a b, h => .cons a (dpAll_snoc b h)
theorem datas_map : ∀ ks : List NestedKey, NestedKey.datas ks = ks.map NestedKey.data
  | [] => rfl
  | k :: ks => by
    simp only [NestedKey.datas, List.map_cons]
    rw [datas_map ks]
/-- what a changed object does not touch -/
theorem Dp.but {H H' : Hp} {D : Addr} (hD : ∀ xs, H D ≠ some (.tup xs)) : True := trivial

theorem sc_as_word : FnScope ["thing", "part"] ["thing"] (defScope s_as_word) := ⟨rfl, rfl, rfl, by decide +kernel, rfl, by decide +kernel, by decide +kernel⟩
theorem ok_as_word (T : Tx K mg)  (D : Df K mg "as_word" s_as_word) (c_is_list : Cal w K mg base CX0 1 "is_list" ["thing"] (sp_is_list K w)) : ∀ n, Cal w K mg base CX0 (5 + n) "as_word" ["thing"] ((sp_as_word K w) n) := by
  have nd := sc_as_word.nd
  intro n
  induction n with
  | zero => exact (D.nil (fun _ _ _ _ _ _ us hl => match us, hl with | [_], _ => rfl)).imp (fun _ _ _ _ ⟨_, _, _, _, _, h, _⟩ => absurd h (Nat.not_lt_zero _))
  | succ n c_as_word =>
  refine D.ok (N := ["thing", "part"]) sc_as_word (fun vs H Q E h => ?_) (fun _ _ _ _ _ _ us hl => match us, hl with | [_], _ => rfl) (fun cdv A outer s H vs Q E hr h => ?_)
  · obtain ⟨v, k, rfl, hv, hw, hd, q⟩ := h
    rfl
  · have hu := hu_of hr
    obtain ⟨v, k, rfl, hv, hw, hd, q⟩ := h
    refine ⟨_, PSs.nox (pss_one (ps_ret (pe_ifExp (pt_val (pe_cal rfl c_is_list (hr.mono (by first | decide | (simp only [Nat.add_eq]; omega))) pass0 (pa_cons (pv 0) pa_nil))) (pe_callTy (call_tuple_of) (by rfl) T.n_tuple (by decide +kernel) (pa_cons (pe_lc (own := [("part", 1)]) (by rfl) nd (pi_tup (pv 0)) (blkOk_by (own := [("part", 1)]) (N := ["thing", "part"]) (sc := defScope s_as_word) (by decide +kernel)) (fun _ _ _ _ _ => (pg_name (i := 1) nd rfl (Or.inl rfl))) (fun _ _ _ _ _ => pts_nil) (fun _ _ _ _ _ => (pe_cal rfl c_as_word (hr.mono (by first | decide | (simp only [Nat.add_eq]; omega))) pass0 (pa_cons (pv 1) pa_nil)))) pa_nil)) (pv 0)))), ?_⟩
    rcases word_kind hv hw with ⟨i, rfl, rfl⟩ | ⟨x, rfl, rfl⟩ | ⟨ks, a, xs, rfl, rfl, hs, ha, hws, hx1000⟩
    · exact ⟨_, rfl, _, _, rfl, .int i, fun H1 s1 => ⟨_, rfl, _, rfl, q _ H1 s1 (Dp.leq (Same.leq s1) _ _ hv)⟩⟩
    · exact ⟨_, rfl, _, _, rfl, .str x, fun H1 s1 => ⟨_, rfl, _, rfl, q _ H1 s1 (Dp.leq (Same.leq s1) _ _ hv)⟩⟩
    · refine ⟨_, rfl, _, _, rfl, .tup hs, fun H1 s1 => ⟨_, rfl, ?_⟩⟩
      refine ⟨_, rfl, a, rfl, ⟨_, SqT.leq (Same.leq s1) hs⟩, fun D hD => ?_⟩
      have hl := dpAll_len ha
      refine lc_ex walk_tup (Nat.le_of_lt (small1000 hx1000)) hD (fun H2 s2 => SqT.leq (Same.leq (Same.trans s1 s2)) hs) (fun zs H2 => DpAll K H2 zs (NestedKey.datas (ks.take zs.length))) (fun zs H2 H3 ⟨acc, ha'⟩ hk hi => words_tle (Tle.but ha' (fun _ z => nomatch z) (fun _ _ z => nomatch z) hk) _ _ hi) (fun _ _ => .nil) (fun i x H2 H3 zs hi s2 hlz hzs ⟨e, hx⟩ R hR => ?_) (fun H2 zs s2 hlz hzs hD' => ?_) gName_mono
      · subst e
        obtain ⟨k', hk', hv'⟩ := dpAll_get ha hx
        refine ⟨rfl, _, rfl, x, k', rfl, Dp.leq (Same.leq (Same.trans s1 s2)) _ _ hv', wordsB_get hws hk', ?_, fun v' H4 s4 hv4 => hR _ H4 s4 ?_⟩
        · have := depthAll_get hk'
          simp only [NestedKey.depth] at hd
          omega
        · rw [List.length_append, hlz, List.length_singleton, take_snoc hk', datas_map, List.map_append, ← datas_map, ← hlz]
          exact dpAll_snoc (words_tle (Same.tle s4) _ _ hzs) hv4
      · rw [List.take_of_length_le (by omega)] at hzs
        refine ⟨D, zs, rfl, .inl ⟨SqL.of hD', fun l hl' => q _ _ (Same.then (Same.trans s1 s2) hl') ?_⟩⟩
        simp only [NestedKey.data]
        exact .tup (SqT.of upd_same) (words_tle (Same.tle (Same.new hl')) _ _ hzs)

end
end FF
namespace FF
open PySem PySem.Spec PyProof.Rows L2
section
variable {w : World} {K : PySem.W.Frag} {mg : Str → Option Value} {base : Heap}

theorem map_get {α β : Type} {f : α → β} {l : List α} {i : Nat} {y : β} (h : (l.map f)[i]? = some y) : ∃ x, l[i]? = some x ∧ y = f x := by
  rw [List.getElem?_map] at h
  obtain ⟨x, h1, h2⟩ := Option.map_eq_some_iff.mp h
  exact ⟨x, h1, h2.symm⟩
/-- the keys of names -/
abbrev kS (l : List Str) : List Key := l.map Sum.inr
abbrev kN (n : Nat) : Key := Sum.inl (n : Int)
abbrev kI (l : List Nat) : List Key := l.map kN
theorem kN_inj {a b : Nat} (e : kN a = kN b) : a = b := by
  have := Sum.inl.inj e
  omega
theorem kS_nodup {l : List Str} (h : l.Nodup) : (kS l).Nodup := List.Pairwise.map _ (fun a b h e => h (Sum.inr.inj e)) h
theorem kI_nodup {l : List Nat} (h : l.Nodup) : (kI l).Nodup := List.Pairwise.map _ (fun a b (h : a ≠ b) e => h (kN_inj e)) h
/-- a list of names -/
structure Names1 (xs : List Str) : Prop where
  nm : ∀ x ∈ xs, nameS x = true
  sz : ∀ x ∈ xs, x.length ≤ sizeLine
  nd : xs.Nodup
  few : xs.length ≤ 60
def sp_are_names (K : PySem.W.Frag) (w : World) : Sp := fun vs H Q _ => ∃ (a : Addr) (xs : List Str), vs = [.ref a] ∧ SqL K H a (xs.map V.str) ∧ Names1 xs ∧ ∀ H', Same H H' → Q (.bl true) H'

theorem sc_are_names : FnScope ["thing", "name"] ["thing"] (defScope s_are_names) := ⟨rfl, rfl, rfl, by decide +kernel, rfl, by decide +kernel, by decide +kernel⟩
theorem ok_are_names (T : Tx K mg)  (D : Df K mg "are_names" s_are_names) (c_is_list : Cal w K mg base CX0 1 "is_list" ["thing"] (sp_is_list K w)) (c_is_name : Cal w K mg base CX0 1 "is_name" ["thing"] (sp_is_name K w)) : Cal w K mg base CX0 2 "are_names" ["thing"] (sp_are_names K w) := by
  have nd := sc_are_names.nd
  refine D.ok (N := ["thing", "name"]) sc_are_names (fun vs H Q E h => ?_) (fun _ _ _ _ _ _ us hl => match us, hl with | [_], _ => rfl) (fun cdv A outer s H vs Q E hr h => ?_)
  · obtain ⟨a, xs, rfl, hs, hx, q⟩ := h
    rfl
  · have hu := hu_of hr
    obtain ⟨a, xs, rfl, hs, hx, q⟩ := h
    refine ⟨_, PSs.nox (pss_cons (ps_if (PW.pt (pw_or (pt_not (pt_val (pe_cal rfl c_is_list (hr.mono (by first | decide | (simp only [Nat.add_eq]; omega))) pass0 (pa_cons (pv 0) pa_nil)))) (pw_or1 (pt_not (pt_val (pe_callB (cr_all rfl) (by rfl) T.n_all (by decide +kernel) (pa_cons (pe_lc (own := [("name", 1)]) (by rfl) nd (pi_list (pv 0)) (blkOk_by (own := [("name", 1)]) (N := ["thing", "name"]) (sc := defScope s_are_names) (by decide +kernel)) (fun _ _ _ _ _ => (pg_name (i := 1) nd rfl (by first | exact Or.inl rfl | exact Or.inr rfl))) (fun _ _ _ _ _ => pts_nil) (fun _ _ _ _ _ => (pe_cal rfl c_is_name (hr.mono (by first | decide | (simp only [Nat.add_eq]; omega))) pass0 (pa_cons (pv 1) pa_nil)))) pa_nil))))))) (pss_one (ps_ret pe_bl)) pss_nil)
      (pss_one (ps_ret (pe_cmpR op_eq (pe_callB call_lenD (by rfl) T.n_len (by decide +kernel) (pa_cons (pe_dc (own := [("name", 1)]) (by rfl) nd (pi_list (pv 0)) (blkOk_by (own := [("name", 1)]) (N := ["thing", "name"]) (sc := defScope s_are_names) (by decide +kernel)) (fun _ _ _ _ _ => (pg_name (i := 1) nd rfl (by first | exact Or.inl rfl | exact Or.inr rfl))) (fun _ _ _ _ _ => pts_nil) (fun _ _ _ _ _ => (pv 1)) (fun _ _ _ _ _ => pe_bl)) pa_nil)) (pe_callB call_len_seq (by rfl) T.n_len (by decide +kernel) (pa_cons (pv 0) pa_nil)) (nomark _))))), ?_⟩
    have few : xs.length ≤ sizeLine := Nat.le_of_lt (small1000 (by have := hx.few; omega))
    refine ⟨_, rfl, _, _, rfl, .lst hs, fun H1 s1 => ⟨_, rfl, _, rfl, ?_⟩⟩
    refine ⟨a, rfl, ⟨_, SqL.leq (Same.leq s1) hs⟩, fun D hD => ?_⟩
    refine lc_fm (walk_list (xs := xs.map V.str)) (xs.map fun _ => some (V.bl true)) (by simp) (by simpa using few) hD (fun H2 s2 => SqL.leq (Same.leq (Same.trans s1 s2)) hs) (fun i o x H2 H3 ho s2 ⟨e, hxi⟩ R hR => ?_) fun H2 s2 hD' => ?_
    · subst e
      obtain ⟨z, hz, rfl⟩ := map_get hxi
      rw [List.getElem?_map, hz] at ho
      cases ho
      have hzm := List.mem_of_getElem? hz
      refine ⟨rfl, _, rfl, _, _, rfl, .str z, fun y e => ?_, fun H4 s4 => ?_⟩
      · cases e
        exact hx.sz z hzm
      · rw [show nameV (.str z) = true from hx.nm z hzm]
        exact hR H4 s4
    · rw [fm_some] at hD'
      refine ⟨D, xs.map fun _ => true, rfl, SqL.of (by rw [hD', List.map_map]; rfl), _, rfl, ?_⟩
      rw [show (xs.map fun _ => true).all id = true by simp]
      have s3 := Same.trans s1 s2
      refine ⟨_, rfl, a, rfl, ⟨_, SqL.leq (Same.leq s3) hs⟩, fun D2 hD2 => ?_⟩
      refine dc_fm (walk_list (xs := xs.map V.str)) (kS xs) (by simp) (kS_nodup hx.nd) (by simpa using few) hD2 (fun H4 s4 => SqL.leq (Same.leq (Same.trans s3 s4)) hs) (fun _ _ => True) (fun _ _ _ _ _ _ => trivial) (fun _ _ => trivial) (fun i k x H4 H5 zs hk s4 _ _ ⟨e, hxi⟩ R hR => ?_) (fun H4 zs s4 hlz _ hd4 => ?_) tYes_mono gName_mono
      · subst e
        obtain ⟨z, hz, rfl⟩ := map_get hxi
        obtain ⟨z', hz', rfl⟩ := map_get hk
        rw [hz] at hz'
        cases hz'
        exact ⟨rfl, _, rfl, hR _ _ (Same.refl _) trivial⟩
      · have s5 := Same.trans s3 s4
        refine ⟨_, _, rfl, hd4, _, rfl, a, _, rfl, .inl (SqL.leq (Same.leq s5) hs), rfl, ?_⟩
        have e : decide (V.int (((kS xs).zip zs).length : Nat) = V.int ((xs.map V.str).length : Nat)) = true := decide_eq_true (by rw [List.length_zip, hlz]; simp)
        rw [e]
        exact q _ s5

theorem valV_at {κ : Type} [DecidableEq κ] {kvs : List (κ × V)} (nd : (kvs.map (·.1)).Nodup) : ∀ {i : Nat} {k : κ} {v : V}, kvs[i]? = some (k, v) → valV kvs k = some v := by
  induction kvs with
  | nil => intro i k v h; simp at h
  | cons p r ih =>
    intro i k v h
    rw [List.map_cons, List.nodup_cons] at nd
    cases i with
    | zero =>
      cases h
      exact valV_pos rfl
    | succ i =>
      have h' : r[i]? = some (k, v) := by simpa using h
      rw [valV_neg (fun e => nd.1 (e ▸ List.mem_map.mpr ⟨_, List.mem_of_getElem? h', rfl⟩))]
      exact ih nd.2 h'
abbrev iV (n : Nat) : V := .int (n : Int)
def sp_each_once (K : PySem.W.Frag) (w : World) : Sp := fun vs H Q _ => ∃ (a : Addr) (ns : List Nat), vs = [.ref a] ∧ SqL K H a (ns.map iV) ∧ ns.Nodup ∧ ns.length ≤ 60 ∧ ∀ p H', Same H H' → H p = none → H' p = some (.lst (ns.map iV)) → Q (.ref p) H'
theorem zip_true (ks : List Key) (b : V) : ks.map (fun k => (k, b)) = ks.zip (List.replicate ks.length b) := by
  induction ks with
  | nil => rfl
  | cons k ks ih => simp [List.replicate_succ, ih]

theorem sc_each_once : FnScope ["things", "found", "thing"] ["things"] (defScope s_each_once) := ⟨rfl, rfl, rfl, by decide +kernel, rfl, by decide +kernel, by decide +kernel⟩
theorem ok_each_once (T : Tx K mg)  (D : Df K mg "each_once" s_each_once)  : Cal w K mg base CX0 1 "each_once" ["things"] (sp_each_once K w) := by
  have nd := sc_each_once.nd
  refine D.ok (N := ["things", "found", "thing"]) sc_each_once (fun vs H Q E h => ?_) (fun _ _ _ _ _ _ us hl => match us, hl with | [_], _ => rfl) (fun cdv A outer s H vs Q E hr h => ?_)
  · obtain ⟨a, ns, rfl, hs, hn, few, q⟩ := h
    rfl
  · have hu := hu_of hr
    obtain ⟨a, ns, rfl, hs, hn, few, q⟩ := h
    refine ⟨_, PSs.nox (pss_cons (ps_set (i := 1) nd rfl (by first | exact Or.inl rfl | exact Or.inr rfl) pe_dnewK)
      (pss_cons (ps_for PassesOwn.never rfl (pi_list (pv 0)) (pg_name (i := 2) nd rfl (by first | exact Or.inl rfl | exact Or.inr rfl)) (pss_one (ps_dput hu (pv 1) (pv 2) pe_bl rfl)))
      (pss_one (ps_ret (pe_callTy (call_listD rfl) (by rfl) T.n_list (by decide +kernel) (pa_cons (pv 1) pa_nil)))))), ?_⟩
    have few' : ns.length < sizeLine := small1000 (by omega)
    refine fun d hd => ⟨_, rfl, a, rfl, ⟨_, SqL.leq (Same.leq (Same.new hd)) hs⟩, ?_⟩
    refine for_list (K := K) (a := a) (xs := ns.map iV) (fun i σ H1 => ∃ v, σ = [some (.ref a), some (.ref d), v] ∧ Same H H1 ∧ H1 d = some (.dK ((kI (ns.take i)).map fun k => (k, .bl true)))) ⟨_, rfl, Same.new hd, upd_same⟩ (fun i σ H1 _ ⟨v, _, s1, _⟩ => SqL.leq (Same.leq s1) hs) ?_ ?_
    · rintro i x σ H1 hi ⟨v, rfl, s1, h1⟩
      obtain ⟨n, hn', rfl⟩ := map_get hi
      have hlt := (List.getElem?_eq_some_iff.mp hn').1
      refine ⟨_, rfl, _, rfl, d, _, rfl, DPut.k (k := kN n) h1 ?_, _, rfl, Same.over s1 hd, ?_⟩
      · rw [List.length_map, List.length_map, List.length_take]
        omega
      · rw [upd_same, putK_new, take_snoc hn', show kI (ns.take i ++ [n]) = kI (ns.take i) ++ [kN n] from List.map_append .., List.map_append]
        · rfl
        · cases e : valV ((kI (ns.take i)).map fun k => (k, V.bl true)) (kN n) with
          | none => rfl
          | some v =>
            have hm := valV_in e
            rw [List.map_map] at hm
            obtain ⟨k, hk, e1⟩ := List.mem_map.mp hm
            obtain ⟨m, hm2, e2⟩ := List.mem_map.mp hk
            have e3 : m = n := kN_inj (e2.trans e1)
            rw [e3] at hm2
            obtain ⟨j, hj⟩ := List.mem_iff_getElem?.mp hm2
            have hj' : j < i := by
              have := (List.getElem?_eq_some_iff.mp hj).1
              rw [List.length_take] at this
              omega
            rw [List.getElem?_take_of_lt hj'] at hj
            exact absurd ((List.getElem?_inj (by omega) hn).mp (hj.trans hn'.symm)) (by omega)
    · rintro σ H1 ⟨v, rfl, s1, h1⟩
      rw [List.length_map, List.take_length] at h1
      refine ⟨_, rfl, d, _, rfl, .inl h1, fun p hp => q p _ (Same.then s1 hp) (Same.free s1 hp) ?_⟩
      rw [upd_same, List.map_map, List.map_map]
      rfl

theorem inS_iff {r : Str} {R : List Str} : (valV ((kS R).map fun k => (k, V.bl true)) (.inr r)).isSome = decide (r ∈ R) := by
  by_cases h : r ∈ R
  · rw [decide_eq_true h]
    cases e : valV ((kS R).map fun k => (k, V.bl true)) (.inr r) with
    | some v => rfl
    | none => exact absurd (List.mem_map.mpr ⟨(Sum.inr r, V.bl true), List.mem_map.mpr ⟨Sum.inr r, List.mem_map.mpr ⟨r, h, rfl⟩, rfl⟩, rfl⟩) (valV_not e)
  · rw [decide_eq_false h]
    cases e : valV ((kS R).map fun k => (k, V.bl true)) (.inr r) with
    | none => rfl
    | some v =>
      obtain ⟨p, hp, e1⟩ := List.mem_map.mp (valV_in e)
      obtain ⟨k, hk, e2⟩ := List.mem_map.mp hp
      obtain ⟨x, hx, e3⟩ := List.mem_map.mp hk
      subst e3 e2
      exact absurd (Sum.inr.inj e1 ▸ hx) h
/-- the dict of rules -/
def RulesD (H : Hp) (d : Addr) (R : List Str) : Prop := H d = some (.dK ((kS R).map fun k => (k, .bl true)))
def barB (R bars : List Str) : Bool := bars.any fun b => decide (b ∈ R)
def sp_can_be_done (K : PySem.W.Frag) (w : World) : Sp := fun vs H Q _ => ∃ (s d bt : Addr) (R bars : List Str) (x one other sd : V), vs = [.ref s, .ref d] ∧ SqT K H s [x, one, other, .ref bt, sd] ∧ SqT K H bt (bars.map V.str) ∧ bars.length ≤ 60 ∧ RulesD H d R ∧ ∀ H', Same H H' → Q (.bl (!barB R bars)) H'

theorem sc_can_be_done : FnScope ["step", "rules", "rule"] ["step", "rules"] (defScope s_can_be_done) := ⟨rfl, rfl, rfl, by decide +kernel, rfl, by decide +kernel, by decide +kernel⟩
theorem ok_can_be_done (T : Tx K mg)  (D : Df K mg "can_be_done" s_can_be_done)  : Cal w K mg base CX0 1 "can_be_done" ["step", "rules"] (sp_can_be_done K w) := by
  have nd := sc_can_be_done.nd
  refine D.ok (N := ["step", "rules", "rule"]) sc_can_be_done (fun vs H Q E h => ?_) (fun _ _ _ _ _ _ us hl => match us, hl with | [_, _], _ => rfl) (fun cdv A outer s H vs Q E hr h => ?_)
  · obtain ⟨s1, d, bt, R, bars, x, one, other, sd, rfl, hs, hb, few, hd, q⟩ := h
    rfl
  · have hu := hu_of hr
    obtain ⟨s1, d, bt, R, bars, x, one, other, sd, rfl, hs, hb, few, hd, q⟩ := h
    refine ⟨_, PSs.nox (pss_one (ps_ret (pe_not (pe_callB (cr_any rfl) (by rfl) T.n_any (by decide +kernel) (pa_cons (pe_lc (own := [("rule", 2)]) (by rfl) nd (pi_tup (pe_ix ix_tup (pv 0) pe_int (fun _ _ => rfl))) (blkOk_by (own := [("rule", 2)]) (N := ["step", "rules", "rule"]) (sc := defScope s_can_be_done) (by decide +kernel)) (fun _ _ _ _ _ => (pg_name (i := 2) nd rfl (by first | exact Or.inl rfl | exact Or.inr rfl))) (fun _ _ _ _ _ => pts_nil) (fun _ _ _ _ _ => (pe_cmp (pc_din hu (pv 2) (pv 1)) (by with_unfolding_all rfl)))) pa_nil))))), ?_⟩
    refine ⟨_, rfl, s1, _, 3, .ref bt, rfl, rfl, hs, atI_nat (j := 3) rfl, ?_⟩
    refine ⟨bt, rfl, ⟨_, hb⟩, fun D hD => ?_⟩
    refine lc_fm (walk_tup (xs := bars.map V.str)) (bars.map fun b => some (V.bl (decide (b ∈ R)))) (by simp) (by simpa using Nat.le_of_lt (small1000 (show bars.length ≤ 1000 by omega))) hD (fun H2 s2 => SqT.leq (Same.leq s2) hb) (fun i o y H2 H3 ho s2 ⟨e, hxi⟩ Rr hR => ?_) fun H2 s2 hD' => ?_
    · subst e
      obtain ⟨b, hb', rfl⟩ := map_get hxi
      rw [List.getElem?_map, hb'] at ho
      cases ho
      refine ⟨rfl, _, rfl, _, rfl, d, _, rfl, DGet.k (k := .inr b) (s2 _ _ hd), ?_⟩
      rw [inS_iff]
      exact hR _ (Same.refl _)
    · rw [fm_some] at hD'
      refine ⟨D, bars.map fun b => decide (b ∈ R), rfl, SqL.of (by rw [hD', List.map_map]; rfl), _, rfl, ?_⟩
      have e : (bars.map fun b => decide (b ∈ R)).any id = barB R bars := by rw [List.any_map]; rfl
      rw [e]
      exact q H2 s2

end
end FF
namespace FF
open PySem PySem.Spec PyProof.Rows L2
section
variable {w : World} {K : PySem.W.Frag} {mg : Str → Option Value} {base : Heap}

abbrev iN (n : Nat) : Int := (n : Int)
theorem perm_nats {l : List Int} {ns : List Nat} (h : l.Perm (ns.map iN)) : ∃ ms : List Nat, l = ms.map iN ∧ ms.Perm ns := by
  have e : (l.map Int.toNat).map iN = l := by
    rw [List.map_map]
    conv => rhs; rw [← List.map_id l]
    refine List.map_congr_left fun x hx => ?_
    obtain ⟨n, _, rfl⟩ := List.mem_map.mp (h.mem_iff.mp hx)
    rfl
  refine ⟨l.map Int.toNat, e.symm, ?_⟩
  have := h.map Int.toNat
  rw [List.map_map] at this
  have e2 : List.map (Int.toNat ∘ iN) ns = ns := by
    conv => rhs; rw [← List.map_id ns]
    exact List.map_congr_left fun x _ => rfl
  rwa [e2] at this
def sp_checked_stands (K : PySem.W.Frag) (w : World) : Sp := fun vs H Q _ => ∃ (a : Addr) (ns : List Nat) (many : Nat), vs = [.ref a, .int (many : Nat)] ∧ SqL K H a (ns.map iV) ∧ (∀ n ∈ ns, n < many) ∧ ns.Nodup ∧ ns.length ≤ 60 ∧
  ∀ (p : Addr) (H' : Hp) (ms : List Nat), Same H H' → H p = none → ms.Perm ns → H' p = some (.lst (ms.map iV)) → Q (.ref p) H'
theorem iV_map (ns : List Nat) : ns.map iV = (ns.map iN).map V.int := by rw [List.map_map]; rfl
theorem stand_ok {n many : Nat} (h : n < many) : standB many (iV n) = true := by
  show (decide ((0 : Int) ≤ n) && decide ((n : Int) < many)) = true
  rw [decide_eq_true (by omega), decide_eq_true (by omega)]
  rfl

theorem sc_checked_stands : FnScope ["stands", "many", "index", "stand"] ["stands", "many"] (defScope s_checked_stands) := ⟨rfl, rfl, rfl, by decide +kernel, rfl, by decide +kernel, by decide +kernel⟩
theorem ok_checked_stands (T : Tx K mg)  (D : Df K mg "checked_stands" s_checked_stands) (c_is_list : Cal w K mg base CX0 1 "is_list" ["thing"] (sp_is_list K w)) (c_is_stand : Cal w K mg base CX0 3 "is_stand" ["thing", "many"] (sp_is_stand K w)) (c_each_once : Cal w K mg base CX0 1 "each_once" ["things"] (sp_each_once K w)) : Cal w K mg base CX0 4 "checked_stands" ["stands", "many"] (sp_checked_stands K w) := by
  have nd := sc_checked_stands.nd
  refine D.ok (N := ["stands", "many", "index", "stand"]) sc_checked_stands (fun vs H Q E h => ?_) (fun _ _ _ _ _ _ us hl => match us, hl with | [_, _], _ => rfl) (fun cdv A outer s H vs Q E hr h => ?_)
  · obtain ⟨a, ns, many, rfl, hs, hlt, hn, few, q⟩ := h
    rfl
  · have hu := hu_of hr
    obtain ⟨a, ns, many, rfl, hs, hlt, hn, few, q⟩ := h
    refine ⟨_, PSs.nox (pss_cons (ps_if (pt_not (pt_val (pe_cal rfl c_is_list (hr.mono (by first | decide | (simp only [Nat.add_eq]; omega))) pass0 (pa_cons (pv 0) pa_nil)))) (pss_one ps_never) pss_nil)
      (pss_cons (ps_for PassesOwn.never rfl (pi_enum (by rfl) T.n_enumerate (pa_cons (pv 0) pa_nil)) (pg_tup rfl (pgs_cons (pg_name (i := 2) nd rfl (by first | exact Or.inl rfl | exact Or.inr rfl)) (pgs_cons (pg_name (i := 3) nd rfl (by first | exact Or.inl rfl | exact Or.inr rfl)) pgs_nil))) (pss_one (ps_if (pt_not (pt_val (pe_cal rfl c_is_stand (hr.mono (by first | decide | (simp only [Nat.add_eq]; omega))) pass0 (pa_cons (pv 3) (pa_cons (pv 1) pa_nil))))) (pss_one ps_never) pss_nil)))
      (pss_one (ps_ret (pe_callB cr_sorted (by rfl) T.n_sorted (by decide +kernel) (pa_cons (pe_cal rfl c_each_once (hr.mono (by first | decide | (simp only [Nat.add_eq]; omega))) pass0 (pa_cons (pv 0) pa_nil)) pa_nil)))))), ?_⟩
    refine ⟨_, rfl, _, _, rfl, .lst hs, fun H1 s1 => ⟨_, rfl, ?_⟩⟩
    refine ⟨_, rfl, a, _, rfl, SqL.leq (Same.leq s1) hs, ?_⟩
    refine for_it walk_enum (fun i σ H2 => ∃ x y, σ = [some (.ref a), some (.int many), x, y] ∧ Same H H2) ⟨_, _, rfl, s1⟩ (fun i σ H2 _ ⟨_, _, _, s2⟩ => SqL.leq (Same.leq s2) hs) ?_ ?_
    · rintro i v σ H2 H3 hi ⟨x, y, rfl, s2⟩ ⟨Tp, ix, st, rfl, hT, rfl, e1, e2⟩
      obtain ⟨n, hn', rfl⟩ := map_get e2
      cases e1
      refine ⟨Tp, _, rfl, SqT.of upd_same, rfl, _, _, rfl, _, _, rfl, rfl, ?_⟩
      refine ⟨_, rfl, _, rfl, _, _, many, rfl, .int n, _, rfl, ?_⟩
      rw [stand_ok (hlt n (List.mem_of_getElem? hn'))]
      exact ⟨_, _, rfl, Same.then s2 hT⟩
    · rintro σ H2 ⟨x, y, rfl, s2⟩
      refine ⟨_, rfl, a, ns, rfl, SqL.leq (Same.leq s2) hs, hn, few, fun p H3 s3 hp hp3 => ?_⟩
      refine ⟨p, ns.map iN, rfl, SqL.of (by rw [hp3, iV_map]), by rw [List.length_map]; omega, fun ns' p' hperm _ hp' => ?_⟩
      obtain ⟨ms, rfl, hm⟩ := perm_nats hperm
      have s4 := Same.trans s2 s3
      exact q p' _ ms (Same.then s4 hp') (Same.free s4 hp') hm (by rw [upd_same, iV_map])

structure StepD where
  k : NestedKey
  one : Nat
  other : Nat
  bars : List Str
/-- a step as the law makes it -/
structure StepAt (K : PySem.W.Frag) (H : Hp) (v : V) (st : StepD) : Prop where
  at_ : ∃ (s r sd : Addr) (wv : V) (kvs : List (Key × V)) (sides : List Str), v = .ref s ∧ SqT K H s [wv, iV st.one, iV st.other, .ref r, .ref sd] ∧ Dp K H wv st.k.data ∧ SqL K H r (st.bars.map V.str) ∧ H sd = some (.dK kvs) ∧ kvs.map (·.1) = kS sides ∧ Names1 sides ∧
    ∀ x ∈ kvs, ∃ kz : NestedKey, Dp K H x.2 kz.data ∧ wordB kz = true ∧ kz.depth < 3
  wd : wordB st.k = true
  dp : st.k.depth < 3
  nm : Names1 st.bars
/-- a step as it is kept -/
def KeptAt (K : PySem.W.Frag) (H : Hp) (v : V) (st : StepD) : Prop := ∃ (s bt : Addr) (wv sd : V) (bars : List Str), v = .ref s ∧ H s = some (.tup [wv, iV st.one, iV st.other, .ref bt, sd]) ∧ Dp K H wv st.k.data ∧ H bt = some (.tup (bars.map V.str)) ∧ bars.Perm st.bars
theorem KeptAt.same {H H' : Hp} {v : V} {st : StepD} (e : Same H H') (h : KeptAt K H v st) : KeptAt K H' v st := by
  obtain ⟨s, bt, wv, sd, bars, h1, h2, h3, h4, h5⟩ := h
  exact ⟨s, bt, wv, sd, bars, h1, e _ _ h2, Dp.leq (Same.leq e) _ _ h3, e _ _ h4, h5⟩
theorem StepAt.same {H H' : Hp} {v : V} {st : StepD} (e : Same H H') (h : StepAt K H v st) : StepAt K H' v st := by
  obtain ⟨⟨s, r, sd, wv, kvs, sides, h1, h2, h3, h4, h5, h6, h7, h8⟩, a, b, c⟩ := h
  exact ⟨⟨s, r, sd, wv, kvs, sides, h1, SqT.leq (Same.leq e) h2, Dp.leq (Same.leq e) _ _ h3, SqL.leq (Same.leq e) h4, e _ _ h5, h6, h7, fun x hx => let ⟨kz, q1, q2⟩ := h8 x hx; ⟨kz, Dp.leq (Same.leq e) _ _ q1, q2⟩⟩, a, b, c⟩
def sp_kept_step (K : PySem.W.Frag) (w : World) : Sp := fun vs H Q _ => ∃ (v : V) (st : StepD) (many : Nat), vs = [v, .int (many : Nat)] ∧ StepAt K H v st ∧ st.one < many ∧ st.other < many ∧ ∀ v' H', Same H H' → KeptAt K H' v' st → Q v' H'

theorem sc_kept_step : FnScope ["thing", "many", "word", "one", "other", "rules", "sights", "side"] ["thing", "many"] (defScope s_kept_step) := ⟨rfl, rfl, rfl, by decide +kernel, rfl, by decide +kernel, by decide +kernel⟩
theorem ok_kept_step (T : Tx K mg)  (D : Df K mg "kept_step" s_kept_step) (c_is_list : Cal w K mg base CX0 1 "is_list" ["thing"] (sp_is_list K w)) (c_is_word : Cal w K mg base CX0 8 "is_word" ["thing"] (sp_is_word K w 3)) (c_is_stand : Cal w K mg base CX0 3 "is_stand" ["thing", "many"] (sp_is_stand K w)) (c_are_names : Cal w K mg base CX0 2 "are_names" ["thing"] (sp_are_names K w)) (c_is_name : Cal w K mg base CX0 1 "is_name" ["thing"] (sp_is_name K w)) (c_as_word : Cal w K mg base CX0 8 "as_word" ["thing"] (sp_as_word K w 3)) : Cal w K mg base CX0 9 "kept_step" ["thing", "many"] (sp_kept_step K w) := by
  have nd := sc_kept_step.nd
  refine D.ok (N := ["thing", "many", "word", "one", "other", "rules", "sights", "side"]) sc_kept_step (fun vs H Q E h => ?_) (fun _ _ _ _ _ _ us hl => match us, hl with | [_, _], _ => rfl) (fun cdv A outer s H vs Q E hr h => ?_)
  · obtain ⟨v, st, many, rfl, hst, h1, h2, q⟩ := h
    rfl
  · have hu := hu_of hr
    obtain ⟨v, st, many, rfl, hst, h1, h2, q⟩ := h
    refine ⟨_, PSs.nox (pss_cons (ps_if (PW.pt (pw_or (pt_not (pt_val (pe_cal rfl c_is_list (hr.mono (by first | decide | (simp only [Nat.add_eq]; omega))) pass0 (pa_cons (pv 0) pa_nil)))) (pw_or (pt_cmpR op_ne (pe_callB call_len_seq (by rfl) T.n_len (by decide +kernel) (pa_cons (pv 0) pa_nil)) pe_int (nomark _)) (pw_or1 (pt_not (pt_val (pe_cal rfl c_is_word (hr.mono (by first | decide | (simp only [Nat.add_eq]; omega))) pass0 (pa_cons (pe_ix ix_tup (pv 0) pe_int (fun _ _ => rfl)) pa_nil)))))))) (pss_one (ps_ret pe_non)) pss_nil)
      (pss_cons (ps_asg (pv 0) (pg_tup rfl (pgs_cons (pg_name (i := 2) nd rfl (by first | exact Or.inl rfl | exact Or.inr rfl)) (pgs_cons (pg_name (i := 3) nd rfl (by first | exact Or.inl rfl | exact Or.inr rfl)) (pgs_cons (pg_name (i := 4) nd rfl (by first | exact Or.inl rfl | exact Or.inr rfl)) (pgs_cons (pg_name (i := 5) nd rfl (by first | exact Or.inl rfl | exact Or.inr rfl)) (pgs_cons (pg_name (i := 6) nd rfl (by first | exact Or.inl rfl | exact Or.inr rfl)) pgs_nil)))))))
      (pss_cons (ps_if (PW.pt (pw_or (pt_not (pt_val (pe_cal rfl c_is_stand (hr.mono (by first | decide | (simp only [Nat.add_eq]; omega))) pass0 (pa_cons (pv 3) (pa_cons (pv 1) pa_nil))))) (pw_or (pt_not (pt_val (pe_cal rfl c_is_stand (hr.mono (by first | decide | (simp only [Nat.add_eq]; omega))) pass0 (pa_cons (pv 4) (pa_cons (pv 1) pa_nil))))) (pw_or (pt_not (pt_val (pe_cal rfl c_are_names (hr.mono (by first | decide | (simp only [Nat.add_eq]; omega))) pass0 (pa_cons (pv 5) pa_nil)))) (pw_or1 (pt_not (pt_val (pe_callB call_isi (by rfl) T.n_isinstance (by decide +kernel) (pa_cons (pv 6) (pa_cons (pe_tyN (T := "dict") (by rfl) T.n_dict (by decide +kernel)) pa_nil)))))))))) (pss_one (ps_ret pe_non)) pss_nil)
      (pss_cons (ps_if (pt_not (pt_val (pe_callB (cr_all rfl) (by rfl) T.n_all (by decide +kernel) (pa_cons (pe_lock (pe_lc (own := [("side", 7)]) (by rfl) nd (pi_keys (pv 6)) (blkOk_by (own := [("side", 7)]) (N := ["thing", "many", "word", "one", "other", "rules", "sights", "side"]) (sc := defScope s_kept_step) (by decide +kernel)) (fun _ _ _ _ _ => (pg_name (i := 7) nd rfl (by first | exact Or.inl rfl | exact Or.inr rfl))) (fun _ _ _ _ _ => pts_nil) (fun _ _ _ _ _ => (pe_and (pe_cal rfl c_is_name (hr.mono (by first | decide | (simp only [Nat.add_eq]; omega))) pass0 (pa_cons (pv 7) pa_nil)) (pe_one (pe_cal rfl c_is_word (hr.mono (by first | decide | (simp only [Nat.add_eq]; omega))) pass0 (pa_cons (pe_dget hu (pv 6) (pv 7) (fun _ _ => rfl)) pa_nil))))))) pa_nil)))) (pss_one (ps_ret pe_non)) pss_nil)
      (pss_one (ps_ret (pe_tup (pa_cons (pe_cal rfl c_as_word (hr.mono (by first | decide | (simp only [Nat.add_eq]; omega))) pass0 (pa_cons (pv 2) pa_nil)) (pa_cons (pv 3) (pa_cons (pv 4) (pa_cons (pe_callTy (call_tuple_of) (by rfl) T.n_tuple (by decide +kernel) (pa_cons (pe_callB cr_sortedS (by rfl) T.n_sorted (by decide +kernel) (pa_cons (pv 5) pa_nil)) pa_nil)) (pa_cons (pe_dc (own := [("side", 7)]) (by rfl) nd (pi_list (pe_callB (call_sortedD rfl) (by rfl) T.n_sorted (by decide +kernel) (pa_cons (pv 6) pa_nil))) (blkOk_by (own := [("side", 7)]) (N := ["thing", "many", "word", "one", "other", "rules", "sights", "side"]) (sc := defScope s_kept_step) (by decide +kernel)) (fun _ _ _ _ _ => (pg_name (i := 7) nd rfl (by first | exact Or.inl rfl | exact Or.inr rfl))) (fun _ _ _ _ _ => pts_nil) (fun _ _ _ _ _ => (pv 7)) (fun _ _ _ _ _ => (pe_cal rfl c_as_word (hr.mono (by first | decide | (simp only [Nat.add_eq]; omega))) pass0 (pa_cons (pe_dget hu (pv 6) (pv 7) (fun _ _ => rfl)) pa_nil)))) pa_nil)))))))))))), ?_⟩
    obtain ⟨⟨sa, r, sd, wv, kvs, sides, rfl, hs, hw, hb, hsd, hkeys, hsn, hval⟩, hwd, hdp, hnm⟩ := hst
    refine ⟨_, rfl, _, _, rfl, .tup hs, fun H1 s1 => ⟨_, rfl, ?_⟩⟩
    refine ⟨_, rfl, sa, _, rfl, .inr (SqT.leq (Same.leq s1) hs), rfl, _, rfl, iteNS rfl ?_⟩
    refine ⟨_, rfl, sa, _, 0, wv, rfl, rfl, SqT.leq (Same.leq s1) hs, atI_nat (j := 0) rfl, wv, st.k, rfl, Dp.leq (Same.leq s1) _ _ hw, hwd, hdp, fun H2 s2 => ⟨_, rfl, ?_⟩⟩
    have s12 := Same.trans s1 s2
    refine ⟨_, rfl, sa, _, rfl, SqT.leq (Same.leq s12) hs, rfl, _, _, rfl, _, _, rfl, _, _, rfl, _, _, rfl, _, _, rfl, rfl, ?_⟩
    refine ⟨_, rfl, _, rfl, _, _, many, rfl, .int _, _, rfl, ?_⟩
    rw [stand_ok h1]
    refine ⟨_, rfl, _, rfl, _, _, many, rfl, .int _, _, rfl, ?_⟩
    rw [stand_ok h2]
    refine ⟨_, rfl, r, st.bars, rfl, SqL.leq (Same.leq s12) hb, hnm, fun H3 s3 => ⟨_, rfl, ?_⟩⟩
    have s13 := Same.trans s12 s3
    refine ⟨_, rfl, _, _, _, _, _, rfl, .ty _, (KdAt.dic (K := K) (.inl (s13 _ _ hsd))).ty, kit_isa K _ (by decide), _, rfl, ?_⟩
    have hsd3 := s13 _ _ hsd
    have hk : ∀ {i : Nat} {k : Key} {v : V}, kvs[i]? = some (k, v) → ∃ z, z ∈ sides ∧ k = .inr z ∧ valV kvs k = some v := fun {i k v} h => by
      have e : (kvs.map (·.1))[i]? = some k := by rw [List.getElem?_map, h]; rfl
      rw [hkeys] at e
      obtain ⟨z, hz, e2⟩ := map_get e
      refine ⟨z, List.mem_of_getElem? hz, e2, ?_⟩
      have nd' : (kvs.map (·.1)).Nodup := by rw [hkeys]; exact kS_nodup hsn.nd
      exact valV_at nd' h
    have hlk : kvs.length = sides.length := by
      have := congrArg List.length hkeys
      simpa using this
    have fewk : kvs.length ≤ sizeLine := Nat.le_of_lt (small1000 (by have := hsn.few; omega))
    refine ⟨sd, _, hsd3, trivial, fun od => ⟨_, rfl, sd, od, rfl, .inl ⟨kvs, upd_same, fun D hD => ?_⟩⟩⟩
    have lk : Leq H3 (L2.upd H3 sd (.frz od (.dK kvs))) := Leq.lock hsd3 fun _ _ z => nomatch z
    refine lc_fm walk_keys (kvs.map fun _ => some (V.bl true)) (List.length_map ..) fewk hD (fun H4 s4 => s4 _ _ upd_same) (fun i o x H4 H5 ho s4 ⟨e, k, z, hkz, ex⟩ R hR => ?_) fun H4 s4 hD4 => ?_
    · subst e ex
      obtain ⟨y, hy, rfl, hvz⟩ := hk hkz
      rw [List.getElem?_map, hkz] at ho
      cases ho
      refine ⟨rfl, _, rfl, _, _, rfl, .str y, fun y' e => ?_, fun H6 s6 => ⟨_, rfl, ?_⟩⟩
      · cases e
        exact hsn.sz y hy
      · rw [show nameV (kV (.inr y)) = true from hsn.nm y hy]
        obtain ⟨kz, q1, q2, q3⟩ := hval _ (List.mem_of_getElem? hkz)
        refine ⟨_, rfl, _, rfl, sd, z, rfl, .inl ⟨kvs, _, .inr ⟨od, s6 _ _ (s4 _ _ upd_same)⟩, rfl, hvz.symm⟩, ?_⟩
        exact ⟨z, kz, rfl, Dp.leq (Leq.trans (Leq.trans (Same.leq s13) lk) (Same.leq (Same.trans s4 s6))) _ _ q1, q2, q3, fun H7 s7 => hR _ (Same.trans s6 s7)⟩
    · rw [fm_some] at hD4
      have hsd4 := s4 _ _ (upd_same (H := H3) (a := sd) (o := .frz od (.dK kvs)))
      have neD : D ≠ sd := fun e => by
        rw [e, upd_same] at hD
        cases hD
      refine ⟨hsd4, D, kvs.map fun _ => true, rfl, SqL.of (by rw [upd_ne neD, hD4, List.map_map]; rfl), _, rfl, ?_⟩
      rw [show (kvs.map fun _ => true).all id = true by simp]
      have s34 : Same H3 (L2.upd H4 sd (.dK kvs)) := Same.unlock hsd3 s4
      generalize L2.upd H4 sd (.dK kvs) = H5 at s34
      have s15 := Same.trans s13 s34
      refine ⟨_, rfl, wv, st.k, rfl, Dp.leq (Same.leq s15) _ _ hw, hwd, hdp, fun wv' H6 s6 hw' => ?_⟩
      have s16 := Same.trans s15 s6
      refine ⟨_, rfl, _, rfl, _, rfl, r, st.bars, rfl, SqL.leq (Same.leq s16) hb, by have := hnm.few; omega, fun ys p hperm _ hp => ?_⟩
      refine ⟨p, _, rfl, .inl ⟨SqL.of upd_same, fun bt hbt => ?_⟩⟩
      have s67 : Same H6 (L2.upd (L2.upd H6 p (.lst (ys.map V.str))) bt (.tup (ys.map V.str))) := Same.then (Same.new hp) hbt
      have hbt7 : (L2.upd (L2.upd H6 p (.lst (ys.map V.str))) bt (.tup (ys.map V.str))) bt = some (.tup (ys.map V.str)) := upd_same
      generalize L2.upd (L2.upd H6 p (.lst (ys.map V.str))) bt (.tup (ys.map V.str)) = H7 at s67 hbt7
      have s17 := Same.trans s16 s67
      refine ⟨_, rfl, sd, kvs, sides, rfl, .inl (s17 _ _ hsd), hkeys, by have := hsn.few; omega, fun zs p2 hperm2 _ hp2 => ?_⟩
      have s78 := Same.new (o := .lst (zs.map V.str)) hp2
      have hp8 : (L2.upd H7 p2 (.lst (zs.map V.str))) p2 = some (.lst (zs.map V.str)) := upd_same
      generalize L2.upd H7 p2 (.lst (zs.map V.str)) = H8 at s78 hp8
      have s18 := Same.trans s17 s78
      refine ⟨p2, rfl, ⟨_, SqL.of hp8⟩, fun D2 hD2 => ?_⟩
      have zl : zs.length = sides.length := hperm2.length_eq
      refine dc_fm (walk_list (xs := zs.map V.str)) (kS zs) (by simp) (kS_nodup (hperm2.nodup_iff.mpr hsn.nd)) (by rw [List.length_map]; omega) hD2 (fun H9 s9 => SqL.leq (Same.leq s9) (SqL.of hp8)) (fun _ _ => True) (fun _ _ _ _ _ _ => trivial) (fun _ _ => trivial) (fun i k x H9 H10 vs9 hk9 s9 _ _ ⟨e, hx9⟩ R hR => ?_) (fun H9 vs9 s9 hl9 _ hd9 => ?_) tYes_mono gName_mono
      · subst e
        obtain ⟨z, hz, rfl⟩ := map_get hx9
        obtain ⟨z', hz', rfl⟩ := map_get hk9
        rw [hz] at hz'
        cases hz'
        obtain ⟨v, hv, hvm⟩ : ∃ v, valV kvs (.inr z) = some v ∧ (Sum.inr z, v) ∈ kvs := by
          have hm : Sum.inr z ∈ kvs.map (·.1) := by
            rw [hkeys]
            exact List.mem_map.mpr ⟨z, hperm2.mem_iff.mp (List.mem_of_getElem? hz), rfl⟩
          obtain ⟨p, hp, e⟩ := List.mem_map.mp hm
          obtain ⟨j, hj⟩ := List.mem_iff_getElem?.mp hp
          obtain ⟨k', v'⟩ := p
          cases e
          obtain ⟨_, _, _, hv⟩ := hk hj
          exact ⟨v', hv, hp⟩
        obtain ⟨kz, q1, q2, q3⟩ := hval _ hvm
        have s19 := Same.trans s18 s9
        refine ⟨rfl, _, rfl, _, rfl, _, rfl, sd, v, rfl, .inl ⟨kvs, _, .inl (s19 _ _ hsd), rfl, hv.symm⟩, ?_⟩
        exact ⟨v, kz, rfl, Dp.leq (Same.leq s19) _ _ q1, q2, q3, fun v' H11 s11 _ => hR v' H11 s11 trivial⟩
      · refine ⟨(by decide : 5 ≤ sizeLine), fun p3 hp3 => ?_⟩
        have s69 := Same.trans s67 (Same.trans s78 s9)
        have s19 := Same.trans s18 s9
        refine q _ _ (Same.then s19 hp3) ⟨p3, bt, wv', _, ys, rfl, upd_same, Dp.leq (Same.leq (Same.then s69 hp3)) _ _ hw', Same.then (Same.trans s78 s9) hp3 _ _ hbt7, hperm⟩

end
end FF
namespace FF
open PySem PySem.Spec PyProof.Rows L2
section
variable {w : World} {K : PySem.W.Frag} {mg : Str → Option Value} {base : Heap}

def rowOf (h : Nat) (sts : List StepD) : List StepD := sts.filter fun s => decide (s.one = h)
theorem rowOf_snoc {h : Nat} {sts : List StepD} {st : StepD} : rowOf h (sts ++ [st]) = if st.one = h then rowOf h sts ++ [st] else rowOf h sts := by
  unfold rowOf
  rw [List.filter_append]
  by_cases e : st.one = h <;> simp [e]
structure StepsOk (many : Nat) (sts : List StepD) : Prop where
  one : ∀ st ∈ sts, st.one < many
  other : ∀ st ∈ sts, st.other < many
  nd : ∀ h, ((rowOf h sts).map (·.k)).Nodup
  few : sts.length ≤ 60
theorem StepsOk.fresh {many : Nat} {sts : List StepD} (h : StepsOk many sts) {i : Nat} {st : StepD} (hi : sts[i]? = some st) : st.k ∉ (rowOf st.one (sts.take i)).map (·.k) := by
  have e : sts = sts.take i ++ [st] ++ sts.drop (i + 1) := by
    rw [← take_snoc hi, List.take_append_drop]
  have nd := h.nd st.one
  rw [e] at nd
  have e2 : rowOf st.one (sts.take i ++ [st] ++ sts.drop (i + 1)) = rowOf st.one (sts.take i) ++ [st] ++ rowOf st.one (sts.drop (i + 1)) := by
    unfold rowOf
    simp
  rw [e2, List.map_append, List.map_append] at nd
  have n2 := (List.nodup_append.mp nd).1
  have n3 := (List.nodup_append.mp n2).2.2
  exact fun hm => n3 _ hm _ (by simp) rfl
/-- a list of steps -/
def StepsAt (K : PySem.W.Frag) (H : Hp) (a : Addr) (sts : List StepD) : Prop := ∃ xs, SqL K H a xs ∧ Paired (StepAt K H) xs sts
theorem paired_map {α β : Type} {F G : α → β → Prop} {l : List α} {m : List β} (h : Paired F l m) (f : ∀ a b, F a b → G a b) : Paired G l m := Paired.mapP h f
theorem paired_snoc {α β : Type} {F : α → β → Prop} : ∀ {l : List α} {m : List β} {a : α} {b : β}, Paired F l m → F a b → Paired F (l ++ [a]) (m ++ [b])
  | _, _, _, _, .nil, h => .cons h .nil
  | _, _, _, _, .cons p q, h => .cons p (paired_snoc q h)
/-- an entry of a kept row -/
def Ekept (K : PySem.W.Frag) (H : Hp) (e : Ent) (st : StepD) : Prop := e.1 = st.k ∧ WdAt K H e.2.1 e.1 ∧ KeptAt K H e.2.2 st
theorem Ekept.same {H H' : Hp} {e : Ent} {st : StepD} (s : Same H H') (h : Ekept K H e st) : Ekept K H' e st := ⟨h.1, WdAt.leq (Same.leq s) h.2.1, KeptAt.same s h.2.2⟩
/-- the table of rows, at p; ds: the rows' dicts -/
structure TblAt (K : PySem.W.Frag) (w : World) (H : Hp) (p : Addr) (many : Nat) (sts : List StepD) (ds : List Addr) : Prop where
  lst : H p = some (.lst (ds.map V.ref))
  len : ds.length = many
  nd : ds.Nodup
  rows : ∀ h d, ds[h]? = some d → ∃ es ep, H d = some (WDo w d es ep) ∧ Paired (Ekept K H) es (rowOf h sts)
theorem TblAt.same {H H' : Hp} {p : Addr} {many : Nat} {sts : List StepD} {ds : List Addr} (s : Same H H') (h : TblAt K w H p many sts ds) : TblAt K w H' p many sts ds :=
  ⟨s _ _ h.lst, h.len, h.nd, fun i d hd => let ⟨es, ep, h1, h2⟩ := h.rows i d hd; ⟨es, ep, s _ _ h1, paired_map h2 fun _ _ q => Ekept.same s q⟩⟩
/-- a row's dict is changed: what stands in rows stays -/
theorem Ekept.put {H : Hp} {e : Ent} {st : StepD} {d : Addr} {es : List Ent} {ep : Nat} {o : HO} (hd : H d = some (WDo w d es ep)) (h : Ekept K H e st) : Ekept K (upd H d o) e st := by
  have t : Tle H (upd H d o) := Tle.but hd (fun _ z => nomatch z) (fun _ _ z => nomatch z) fun b u hb q => by rw [upd_ne hb]; exact q
  have tup : ∀ b xs, H b = some (.tup xs) → (upd H d o) b = some (.tup xs) := fun b xs q => by
    rw [upd_ne (ne_of q hd (fun z => nomatch z))]
    exact q
  obtain ⟨h1, h2, s, bt, wv, sd, bars, q1, q2, q3, q4, q5⟩ := h
  exact ⟨h1, WdAt.tle t h2, s, bt, wv, sd, bars, q1, tup _ _ q2, word_tle t _ _ q3, tup _ _ q4, q5⟩
theorem kvOf_keys (es : List Ent) : (kvOf es).map (·.1) = es.map (·.1) := by
  rw [List.map_map]
  rfl
theorem paired_keys {H : Hp} {es : List Ent} {sts : List StepD} (h : Paired (Ekept K H) es sts) : es.map (·.1) = sts.map (·.k) := by
  induction h with
  | nil => rfl
  | cons p _ ih => rw [List.map_cons, List.map_cons, ih, p.1]
theorem paired_words {H : Hp} {es : List Ent} {sts : List StepD} (h : Paired (Ekept K H) es sts) : ∀ e ∈ es, WdAt K H e.2.1 e.1 := by
  induction h with
  | nil => exact fun _ hx => nomatch hx
  | cons p _ ih =>
    intro x hx
    rcases List.mem_cons.mp hx with rfl | hx
    · exact p.2.1
    · exact ih x hx
def sp_checked_steps (K : PySem.W.Frag) (w : World) : Sp := fun vs H Q _ => ∃ (a : Addr) (many : Nat) (sts : List StepD), vs = [.ref a, iV many] ∧ StepsAt K H a sts ∧ StepsOk many sts ∧ many ≤ 60 ∧
  ∀ (p : Addr) (H' : Hp) (ds : List Addr), Same H H' → H p = none → TblAt K w H' p many sts ds → Q (.ref p) H'

theorem sc_checked_steps : FnScope ["steps", "many", "found", "index", "thing", "step", "_"] ["steps", "many"] (defScope s_checked_steps) := ⟨rfl, rfl, rfl, by decide +kernel, rfl, by decide +kernel, by decide +kernel⟩
theorem ok_checked_steps (T : Tx K mg)  (D : Df K mg "checked_steps" s_checked_steps) (c_is_list : Cal w K mg base CX0 1 "is_list" ["thing"] (sp_is_list K w)) (c_kept_step : Cal w K mg base CX0 9 "kept_step" ["thing", "many"] (sp_kept_step K w)) : Cal w K mg base CX0 10 "checked_steps" ["steps", "many"] (sp_checked_steps K w) := by
  have nd := sc_checked_steps.nd
  refine D.ok (N := ["steps", "many", "found", "index", "thing", "step", "_"]) sc_checked_steps (fun vs H Q E h => ?_) (fun _ _ _ _ _ _ us hl => match us, hl with | [_, _], _ => rfl) (fun cdv A outer s H vs Q E hr h => ?_)
  · obtain ⟨a, many, sts, rfl, ⟨xs, hs, hxs⟩, hok, hm, q⟩ := h
    rfl
  · have hu := hu_of hr
    have hu9 : (A.deeper (envOfC "checked_steps" (defScope s_checked_steps) s.heap.objs.size (He.ga K "checked_steps") cdv)).units + 9 < cLine := by have := hr.units; omega
    obtain ⟨a, many, sts, rfl, ⟨xs, hs, hxs⟩, hok, hm, q⟩ := h
    refine ⟨_, PSs.nox (pss_cons (ps_if (pt_not (pt_val (pe_cal rfl c_is_list (hr.mono (by first | decide | (simp only [Nat.add_eq]; omega))) pass0 (pa_cons (pv 0) pa_nil)))) (pss_one ps_never) pss_nil)
      (pss_cons (ps_setLc (i := 2) (own := [("_", 6)]) (by rfl) nd rfl rfl (sw_true rfl rfl rfl (by decide +kernel)) (pi_range1 (by rfl) T.n_range (pa_cons (pv 1) pa_nil)) (blkOk_by (own := [("_", 6)]) (N := ["steps", "many", "found", "index", "thing", "step", "_"]) (sc := defScope s_checked_steps) (by decide +kernel)) (fun _ _ _ _ _ => (pg_name (i := 6) nd rfl (by first | exact Or.inl rfl | exact Or.inr rfl))) (fun _ _ _ _ _ => pts_nil) (fun _ _ _ _ _ => (show PE _ _ (tDNewW w) from pe_dnewW)))
      (pss_cons (ps_for PassesOwn.never rfl (pi_enum (by rfl) T.n_enumerate (pa_cons (pv 0) pa_nil)) (pg_tup rfl (pgs_cons (pg_name (i := 3) nd rfl (by first | exact Or.inl rfl | exact Or.inr rfl)) (pgs_cons (pg_name (i := 4) nd rfl (by first | exact Or.inl rfl | exact Or.inr rfl)) pgs_nil))) (pss_cons (ps_set (i := 5) nd rfl (by first | exact Or.inl rfl | exact Or.inr rfl) (pe_cal rfl c_kept_step (hr.mono (by first | decide | (simp only [Nat.add_eq]; omega))) pass0 (pa_cons (pv 4) (pa_cons (pv 1) pa_nil))))
      (pss_cons (ps_if (PW.pt (pw_or (pt_cmp (pc_isN (pv 5)) rfl) (pw_or1 (pt_cmpR (op_inW hu9) (pe_ix ix_tup (pv 5) pe_int (fun _ _ => rfl)) (pe_ix ix_list (pv 2) (pe_ix ix_tup (pv 5) pe_int (fun _ _ => rfl)) (fun _ _ => rfl)) (by with_unfolding_all rfl))))) (pss_one ps_never) pss_nil)
      (pss_one (ps_asg (pv 5) (pg_sub (pe_ix ix_list (pv 2) (pe_ix ix_tup (pv 5) pe_int (fun _ _ => rfl)) (fun _ _ => rfl)) (pe_ix ix_tup (pv 5) pe_int (fun _ _ => rfl)) (set_W hu9)))))))
      (pss_one (ps_ret (pv 2)))))), ?_⟩
    have lx : xs.length = sts.length := Paired.length hxs
    refine ⟨_, rfl, _, _, rfl, .lst hs, fun H1 s1 => ⟨_, rfl, ?_⟩⟩
    refine ⟨_, rfl, many, rfl, by omega, by omega, fun p hp => ?_⟩
    refine lc_ex walk_range (by rw [Int.toNat_natCast]; exact Nat.le_of_lt (small1000 (by omega))) hp (fun _ _ => trivial) (fun zs H2 => ∃ ds : List Addr, zs = ds.map V.ref ∧ ds.Nodup ∧ ∀ d ∈ ds, H1 d = none ∧ H2 d = some (WDo w d [] 0))
      (fun zs H2 H3 ⟨acc, hacc⟩ hk ⟨ds, e, nd', hd⟩ => ⟨ds, e, nd', fun d hm => ⟨(hd d hm).1, hk d _ (ne_of (hd d hm).2 hacc (fun z => nomatch z)) (hd d hm).2⟩⟩) (fun _ _ => ⟨[], rfl, List.nodup_nil, fun _ z => nomatch z⟩) (fun i x H2 H3 zs hi s2 hlz ⟨ds, e, nd', hd⟩ ⟨eH, ex⟩ R hR => ?_) (fun H2 zs s2 hlz ⟨ds, e, nd', hd⟩ hp2 => ?_) gName_mono
    · subst eH
      refine ⟨rfl, fun d hd0 => hR _ _ (Same.new hd0) ⟨ds ++ [d], by rw [e]; simp, ?_, fun d' hm' => ?_⟩⟩
      · rw [List.nodup_append]
        refine ⟨nd', by simp, fun x hx y hy e => ?_⟩
        have : y = d := by simpa using hy
        rw [e, this] at hx
        rw [(hd d hx).2] at hd0
        cases hd0
      · rcases List.mem_append.mp hm' with hm' | hm'
        · exact ⟨(hd d' hm').1, Same.new hd0 _ _ (hd d' hm').2⟩
        · rw [List.mem_singleton.mp hm']
          exact ⟨Same.free s2 hd0, upd_same⟩
    · subst e
      rw [Int.toNat_natCast, List.length_map] at hlz
      have s12 := Same.trans s1 s2
      have hp0 : H p = none := Same.free s1 hp
      have hd0 : ∀ d ∈ ds, H d = none := fun d hm => Same.free s1 (hd d hm).1
      refine ⟨_, rfl, a, xs, rfl, SqL.leq (Same.leq s12) hs, ?_⟩
      refine for_it walk_enum (fun i σ H3 => ∃ x y z v6, σ = [some (.ref a), some (iV many), some (.ref p), x, y, z, v6] ∧ Same H H3 ∧ TblAt K w H3 p many (sts.take i) ds) ⟨none, none, none, none, rfl, s12, hp2, hlz, nd', fun h d hd' => ⟨[], 0, (hd d (List.mem_of_getElem? hd')).2, .nil⟩⟩ (fun i σ H3 _ ⟨_, _, _, _, _, s3, _⟩ => SqL.leq (Same.leq s3) hs) ?_ ?_
      · rintro i v σ H3 H4 hi ⟨x, y, z, v6, rfl, s3, ht⟩ ⟨Tp, ix, sv, rfl, hT, rfl, e1, e2⟩
        cases e1
        obtain ⟨st, hst, hsa⟩ := paired_get hxs e2
        have hmem := List.mem_of_getElem? hst
        have s4 := Same.then (o := .tup [.int (i : Nat), sv]) s3 hT
        have ht4 := TblAt.same (Same.new hT (o := .tup [.int (i : Nat), sv])) ht
        refine ⟨Tp, _, rfl, SqT.of upd_same, rfl, _, _, rfl, _, _, rfl, rfl, ?_⟩
        generalize L2.upd H3 Tp (.tup [.int (i : Nat), sv]) = H4 at s4 ht4
        refine ⟨_, rfl, _, rfl, sv, st, many, rfl, StepAt.same s4 hsa, hok.one st hmem, hok.other st hmem, fun v' H5 s5 hk => ?_⟩
        have s45 := Same.trans s4 s5
        have ht5 := TblAt.same s5 ht4
        obtain ⟨sa, bt, wv, sdv, bars, rfl, k1, k2, k3, k4⟩ := id hk
        have hone : st.one < ds.length := by rw [hlz]; exact hok.one st hmem
        obtain ⟨d, hd'⟩ : ∃ d, ds[st.one]? = some d := ⟨_, List.getElem?_eq_getElem hone⟩
        obtain ⟨es, ep, hde, hpe⟩ := ht5.rows _ _ hd'
        have hwk : WdAt K H5 wv st.k := ⟨k2, by have := hsa.dp; omega⟩
        have hfr : st.k ∉ es.map (·.1) := by rw [paired_keys hpe]; exact hok.fresh hst
        have hdm := List.mem_of_getElem? hd'
        have esl : es.length < sizeLine := by
          have e1 : es.length = (rowOf st.one (sts.take i)).length := Paired.length hpe
          have e2 : (rowOf st.one (sts.take i)).length ≤ (sts.take i).length := List.length_filter_le _ _
          have := hok.few
          rw [List.length_take] at e2
          exact small1000 (by omega)
        have hixl : atI (ds.map V.ref) (iN st.one) = some (.ref d) := atI_nat (j := st.one) (by rw [List.getElem?_map, hd']; rfl)
        refine ⟨_, rfl, _, rfl, ?_⟩
        refine ⟨_, rfl, sa, _, 0, wv, rfl, rfl, SqT.of k1, atI_nat (j := 0) rfl, ?_⟩
        refine ⟨_, rfl, _, rfl, sa, _, 1, iV st.one, rfl, rfl, SqT.of k1, atI_nat (j := 1) rfl, ?_⟩
        refine ⟨p, _, _, .ref d, rfl, rfl, SqL.of ht5.lst, hixl, ?_⟩
        refine ⟨d, es, st.k, rfl, hwk, ⟨⟨ep, hde⟩, paired_words hpe⟩, _, rfl, ?_⟩
        rw [valV_keys (by rw [kvOf_keys]; exact hfr)]
        refine ⟨_, rfl, _, rfl, _, rfl, sa, _, 1, iV st.one, rfl, rfl, SqT.of k1, atI_nat (j := 1) rfl, ?_⟩
        refine ⟨p, _, _, .ref d, rfl, rfl, SqL.of ht5.lst, hixl, ?_⟩
        refine ⟨_, rfl, sa, _, 0, wv, rfl, rfl, SqT.of k1, atI_nat (j := 0) rfl, ?_⟩
        refine ⟨d, es, ep, st.k, rfl, hwk, hde, paired_words hpe, hfr, esl, ?_⟩
        refine ⟨_, _, _, v6, rfl, Same.over s45 (hd0 d hdm), ?_, hlz, nd', fun h d' hd2 => ?_⟩
        · rw [upd_ne (ne_of ht5.lst hde (fun z => nomatch z))]
          exact ht5.lst
        · rw [take_snoc hst, rowOf_snoc]
          by_cases e : h = st.one
          · subst e
            rw [hd'] at hd2
            cases hd2
            rw [if_pos rfl]
            exact ⟨_, _, upd_same, paired_snoc (paired_map hpe fun _ _ q => Ekept.put hde q) (Ekept.put hde ⟨rfl, hwk, hk⟩)⟩
          · rw [if_neg (fun q => e q.symm)]
            have ne : d' ≠ d := fun q => by
              subst q
              exact e ((List.getElem?_inj (by rw [hlz]; have := (List.getElem?_eq_some_iff.mp hd2).1; omega) nd').mp (hd2.trans hd'.symm))
            obtain ⟨es', ep', h1, h2⟩ := ht5.rows _ _ hd2
            exact ⟨es', ep', by rw [upd_ne ne]; exact h1, paired_map h2 fun _ _ q => Ekept.put hde q⟩
      · rintro σ H3 ⟨x, y, z, v6, rfl, s3, ht⟩
        rw [lx, List.take_length] at ht
        exact ⟨_, rfl, q p H3 ds s3 hp0 ht⟩

end
end FF
namespace FF
open PySem PySem.Spec PyProof.Rows L2
section
variable {w : World} {K : PySem.W.Frag} {mg : Str → Option Value} {base : Heap}

/-! ### the class Play -/
abbrev plC (K : PySem.W.Frag) : Addr := He.ga K "Play"
abbrev plI (K : PySem.W.Frag) : Addr := He.ma K (He.ga K "Play") "__init__"
abbrev plL (K : PySem.W.Frag) : Addr := He.ma K (He.ga K "Play") "__len__"
structure PlTx (K : PySem.W.Frag) (mg : Str → Option Value) : Prop where
  g : mg "Play" = some (.ref (plC K))
  cl : L2.Cls K (plC K)
  n1 : NoAttr K (plC K) "own_table"
  n2 : NoAttr K (plC K) "own_bad"
  mkr : Mk K (plC K) (plI K)
  ln : Meth K (plC K) "__len__" (plL K)
  fi : ∃ fd, FnM K "__init__" "Play.__init__" s_Play__init__ (plI K) fd
  fl : ∃ fd, FnM K "__len__" "Play.__len__" s_Play__len__ (plL K) fd
/-- a play: many stands, the steps sts, the bad ones -/
def PlayAt (K : PySem.W.Frag) (w : World) (H : Hp) (a : Addr) (many : Nat) (sts : List StepD) (bad : List Nat) : Prop :=
  ∃ (dx t b : Addr) (ds : List Addr) (ms : List Nat), H a = some (.ins (plC K) dx [("own_table", .ref t), ("own_bad", .ref b)]) ∧ TblAt K w H t many sts ds ∧ H b = some (.lst (ms.map iV)) ∧ ms.Perm bad
theorem PlayAt.same {H H' : Hp} {a : Addr} {many : Nat} {sts : List StepD} {bad : List Nat} (s : Same H H') (h : PlayAt K w H a many sts bad) : PlayAt K w H' a many sts bad := by
  obtain ⟨dx, t, b, ds, ms, h1, h2, h3, h4⟩ := h
  exact ⟨dx, t, b, ds, ms, s _ _ h1, TblAt.same s h2, s _ _ h3, h4⟩
/-- a play just made, H the heap before -/
def PlayNew (K : PySem.W.Frag) (w : World) (H H' : Hp) (a : Addr) (many : Nat) (sts : List StepD) (bad : List Nat) : Prop :=
  ∃ (dx t b : Addr) (ds : List Addr) (ms : List Nat), H t = none ∧ H b = none ∧ H' a = some (.ins (plC K) dx [("own_table", .ref t), ("own_bad", .ref b)]) ∧ TblAt K w H' t many sts ds ∧ H' b = some (.lst (ms.map iV)) ∧ ms.Perm bad
theorem PlayNew.at {H H' : Hp} {a : Addr} {many : Nat} {sts : List StepD} {bad : List Nat} (h : PlayNew K w H H' a many sts bad) : PlayAt K w H' a many sts bad := let ⟨dx, t, b, ds, ms, _, _, h⟩ := h; ⟨dx, t, b, ds, ms, h⟩
def sp_Play_init (K : PySem.W.Frag) (w : World) : Sp := fun vs H Q _ => ∃ (x dx a b : Addr) (many : Nat) (sts : List StepD) (bad : List Nat), vs = [.ref x, iV many, .ref a, .ref b] ∧ H x = some (.ins (plC K) dx []) ∧ StepsAt K H a sts ∧ StepsOk many sts ∧ 1 ≤ many ∧ many ≤ 60 ∧
  SqL K H b (bad.map iV) ∧ (∀ n ∈ bad, n < many) ∧ bad.Nodup ∧ bad.length ≤ 60 ∧ ∀ H', (∀ c o, c ≠ x → H c = some o → H' c = some o) → PlayNew K w H H' x many sts bad → Q .non H'
theorem sc_Play_init : FnScope ["self", "many", "steps", "bad"] ["self", "many", "steps", "bad"] (defScope s_Play__init__) := ⟨rfl, rfl, rfl, by decide +kernel, rfl, by decide +kernel, by decide +kernel⟩
theorem ok_Play_init (T : Tx K mg) (Pl : PlTx K mg) (c_is_integer : Cal w K mg base CX0 1 "is_integer" ["thing"] (sp_is_integer K w)) (c_checked_steps : Cal w K mg base CX0 10 "checked_steps" ["steps", "many"] (sp_checked_steps K w)) (c_checked_stands : Cal w K mg base CX0 4 "checked_stands" ["stands", "many"] (sp_checked_stands K w)) :
    ∃ fd, FnOk Pg w K mg base CX0 11 (plI K) fd ["self", "many", "steps", "bad"] (sp_Play_init K w) ∧ L2.Binds K fd ["self", "many", "steps", "bad"] [] := by
  obtain ⟨fd, F⟩ := Pl.fi
  have nd := sc_Play_init.nd
  refine ⟨fd, F.ok (N := ["self", "many", "steps", "bad"]) sc_Play_init (fun vs H Q E h => ?_) (fun cdv A outer s H vs Q E hr h => ?_), F.bindsN fun _ _ _ _ _ _ us hl => match us, hl with | [_, _, _, _], _ => rfl⟩
  · obtain ⟨x, dx, a, b, many, sts, bad, rfl, _⟩ := h
    rfl
  · obtain ⟨x, dx, a, b, many, sts, bad, rfl, hx, hst, hso, h1, h60, hb, hb1, hb2, hb3, q⟩ := h
    refine ⟨_, PSs.nox (pss_cons (ps_if (PW.pt (pw_or (pt_not (pt_val (pe_cal rfl c_is_integer (hr.mono (by first | decide | (simp only [Nat.add_eq]; omega))) pass0 (pa_cons (pv 1) pa_nil)))) (pw_or1 (pt_cmpR op_lt (pv 1) pe_int (nomark _))))) (pss_one ps_never) pss_nil)
      (pss_cons (ps_fld (pv 0) (pe_cal rfl c_checked_steps (hr.mono (by first | decide | (simp only [Nat.add_eq]; omega))) pass0 (pa_cons (pv 2) (pa_cons (pv 1) pa_nil))) rfl)
      (pss_one (ps_fld (pv 0) (pe_cal rfl c_checked_stands (hr.mono (by first | decide | (simp only [Nat.add_eq]; omega))) pass0 (pa_cons (pv 3) (pa_cons (pv 1) pa_nil))) rfl)))), ?_⟩
    refine ⟨_, rfl, _, _, rfl, .int _, _, rfl, ?_⟩
    refine ⟨_, rfl, _, _, rfl, rfl, _, rfl, ?_⟩
    rw [decide_eq_false (show ¬ ((many : Int) < 1) by omega)]
    refine ⟨_, rfl, _, rfl, a, many, sts, rfl, hst, hso, h60, fun p H1 ds s1 hp ht => ?_⟩
    have hx1 := s1 _ _ hx
    refine ⟨_, rfl, x, plC K, dx, _, rfl, hx1, Pl.cl, Pl.n1, by simp, ?_⟩
    have e1 : putF "own_table" (V.ref p) [] = ([("own_table", V.ref p)] : List (Str × V)) := rfl
    rw [e1]
    have keep1 : ∀ c o, c ≠ x → H1 c = some o → (L2.upd H1 x (.ins (plC K) dx [("own_table", V.ref p)])) c = some o := fun c o hc q => by rw [upd_ne hc]; exact q
    have hx2 : (L2.upd H1 x (.ins (plC K) dx [("own_table", V.ref p)])) x = some (.ins (plC K) dx [("own_table", V.ref p)]) := upd_same
    have insT : ∀ {H H' : Hp} {fs : List (Str × V)}, H x = some (.ins (plC K) dx fs) → (∀ c o, c ≠ x → H c = some o → H' c = some o) → ∀ {p ds}, TblAt K w H p many sts ds → TblAt K w H' p many sts ds := fun {H H' fs} hx keep {p ds} ht => by
      have t : Tle H H' := Tle.but hx (fun _ z => nomatch z) (fun _ _ z => nomatch z) keep
      refine ⟨keep _ _ (ne_of ht.lst hx (fun z => nomatch z)) ht.lst, ht.len, ht.nd, fun i d hd => ?_⟩
      obtain ⟨es, ep, q1, q2⟩ := ht.rows i d hd
      refine ⟨es, ep, keep _ _ (ne_of q1 hx (fun z => nomatch z)) q1, paired_map q2 fun e st ⟨r1, r2, s, bt, wv, sd, bars, r3, r4, r5, r6, r7⟩ => ⟨r1, WdAt.tle t r2, s, bt, wv, sd, bars, r3, keep _ _ (ne_of r4 hx (fun z => nomatch z)) r4, word_tle t _ _ r5, keep _ _ (ne_of r6 hx (fun z => nomatch z)) r6, r7⟩⟩
    have ht2 := insT hx1 keep1 ht
    have hb' : SqL K (L2.upd H1 x (.ins (plC K) dx [("own_table", V.ref p)])) b (bad.map iV) := by
      rcases SqL.leq (Same.leq s1) hb with r | r
      · refine .inl ?_
        have ne : ∀ u, Rd H1 b u → (∀ C d f, u ≠ .ins C d f) → b ≠ x := fun u ru hu e => by
          subst e
          rcases ru with r | ⟨o, r⟩
          · rw [hx1] at r
            exact hu _ _ _ (Option.some.inj r).symm
          · rw [hx1] at r
            cases r
        have nb := ne _ r (fun _ _ _ z => nomatch z)
        exact r.elim (fun q => .inl (keep1 _ _ nb q)) fun ⟨o, q⟩ => .inr ⟨o, keep1 _ _ nb q⟩
      · exact .inr r
    generalize L2.upd H1 x (.ins (plC K) dx [("own_table", V.ref p)]) = H2 at keep1 hx2 ht2 hb'
    refine ⟨_, rfl, _, rfl, b, bad, many, rfl, hb', hb1, hb2, hb3, fun p2 H3 ms s3 hp2 hperm hbd => ?_⟩
    have hx3 := s3 _ _ hx2
    refine ⟨_, rfl, x, plC K, dx, _, rfl, hx3, Pl.cl, Pl.n2, by simp, ?_⟩
    have e2 : putF "own_bad" (V.ref p2) ([("own_table", V.ref p)] : List (Str × V)) = ([("own_table", V.ref p), ("own_bad", V.ref p2)] : List (Str × V)) := rfl
    rw [e2]
    have keep3 : ∀ c o, c ≠ x → H3 c = some o → (L2.upd H3 x (.ins (plC K) dx [("own_table", V.ref p), ("own_bad", V.ref p2)])) c = some o := fun c o hc q => by rw [upd_ne hc]; exact q
    have hp20 : H p2 = none := by
      cases e : H p2 with
      | none => rfl
      | some o =>
        by_cases ex : p2 = x
        · rw [ex, hx2] at hp2
          cases hp2
        · have := keep1 _ _ ex (s1 _ _ e)
          rw [hp2] at this
          cases this
    refine q _ (fun c o hc r => keep3 c o hc (s3 c o (keep1 c o hc (s1 c o r)))) ⟨dx, p, p2, ds, ms, hp, hp20, upd_same, insT hx3 keep3 (TblAt.same s3 ht2), keep3 _ _ (ne_of hbd hx3 (fun z => nomatch z)) hbd, hperm⟩
def sp_Play_len (K : PySem.W.Frag) (w : World) : Sp := fun vs H Q _ => ∃ (x : Addr) (many : Nat) (sts : List StepD) (bad : List Nat), vs = [.ref x] ∧ PlayAt K w H x many sts bad ∧ Q (iV many) H
theorem sc_Play_len : FnScope ["self"] ["self"] (defScope s_Play__len__) := ⟨rfl, rfl, rfl, by decide +kernel, rfl, by decide +kernel, by decide +kernel⟩
theorem ok_Play_len (T : Tx K mg) (Pl : PlTx K mg) : ∃ fd, FnOk Pg w K mg base CX0 1 (plL K) fd ["self"] (sp_Play_len K w) ∧ L2.Binds K fd ["self"] [] := by
  obtain ⟨fd, F⟩ := Pl.fl
  have nd := sc_Play_len.nd
  refine ⟨fd, F.ok (N := ["self"]) sc_Play_len (fun vs H Q E h => ?_) (fun cdv A outer s H vs Q E hr h => ?_), F.bindsN fun _ _ _ _ _ _ us hl => match us, hl with | [_], _ => rfl⟩
  · obtain ⟨x, many, sts, bad, rfl, _⟩ := h
    rfl
  · obtain ⟨x, many, sts, bad, rfl, ⟨dx, t, b, ds, ms, h1, h2, _⟩, q⟩ := h
    refine ⟨_, PSs.nox (pss_one (ps_ret (pe_callB call_len_seq (by rfl) T.n_len (by decide +kernel) (pa_cons (pe_fld (pv 0) rfl) pa_nil)))), ?_⟩
    refine ⟨_, rfl, x, plC K, dx, _, _, rfl, h1, Pl.cl, Pl.n1, rfl, t, _, rfl, .inl (SqL.of h2.lst), ?_⟩
    have e : ((ds.map V.ref).length : Int) = (many : Int) := by rw [List.length_map, h2.len]
    show Q (.int ((ds.map V.ref).length : Nat)) H
    rw [e]
    exact q

end
end FF
namespace FF
open PySem PySem.Spec PyProof.Rows L2
section
variable {w : World} {K : PySem.W.Frag} {mg : Str → Option Value} {base : Heap}

/-! ### the class BadRules -/
abbrev brC (K : PySem.W.Frag) : Addr := He.ga K "BadRules"
abbrev brI (K : PySem.W.Frag) : Addr := He.ma K (He.ga K "BadRules") "__init__"
structure BrTx (K : PySem.W.Frag) (mg : Str → Option Value) : Prop where
  g : mg "BadRules" = some (.ref (brC K))
  oex : OexC K (brC K)
  iC : PySem.W.findIn K (.ref (brC K)) "__init__" = some (some (.ref (brI K)))
  tI : PySem.W.typeIn K (.ref (brI K)) = some (.type "function")
  no : PySem.W.findIn K (.ref (brC K)) "index" = some none
  fi : ∃ fd, FnM K "__init__" "BadRules.__init__" s_BadRules__init__ (brI K) fd
def sp_BR_init (K : PySem.W.Frag) (w : World) : Sp := fun vs H Q _ => ∃ (x : Addr) (v : V), vs = [.ref x, v] ∧ H x = some (exo x (brC K) none) ∧ ∀ dx, H dx = none → dx ≠ x → Q .non (L2.upd (L2.upd H dx (exd dx [("index", v)])) x (exo x (brC K) (some dx)))
theorem sc_BR_init : FnScope ["self", "index"] ["self", "index"] (defScope s_BadRules__init__) := ⟨rfl, rfl, rfl, by decide +kernel, rfl, by decide +kernel, by decide +kernel⟩
theorem ok_BR_init (Br : BrTx K mg) : ∃ fd, FnOk Pg w K mg base CX0 1 (brI K) fd ["self", "index"] (sp_BR_init K w) ∧ L2.Binds K fd ["self", "index"] [] := by
  obtain ⟨fd, F⟩ := Br.fi
  have nd := sc_BR_init.nd
  refine ⟨fd, F.ok (N := ["self", "index"]) sc_BR_init (fun vs H Q E h => ?_) (fun cdv A outer s H vs Q E hr h => ?_), F.bindsN fun _ _ _ _ _ _ us hl => match us, hl with | [_, _], _ => rfl⟩
  · obtain ⟨x, v, rfl, _⟩ := h
    rfl
  · obtain ⟨x, v, rfl, hx, q⟩ := h
    refine ⟨_, PSs.nox (pss_one (ps_ost (pv 0) (pv 1))), ?_⟩
    exact ⟨_, rfl, _, rfl, x, brC K, rfl, Br.oex, Br.no, .inl ⟨hx, q⟩⟩
/-- what a raise BadRules(i) leaves -/
def RaisesAt (K : PySem.W.Frag) (H : Hp) (i : Int) (E : XK) : Prop := ∀ d H', Same H H' → H d = none → H' d = some (.xd [("index", .int i)]) → E (.ref (brC K)) (some d) H'
theorem RaisesAt.same {H H1 : Hp} {i : Int} {E : XK} (h : RaisesAt K H i E) (s : Same H H1) : RaisesAt K H1 i E := fun d H' s' hd hx => h d H' (Same.trans s s') (Same.free s hd) hx
theorem raises_mk {H : Hp} {i : Int} {E : XK} (h : RaisesAt K H i E) : ([V.int i] : List V).length ≤ 1000 ∧ ∀ a, H a = none → sp_BR_init K w (.ref a :: ([V.int i] ++ [])) (L2.upd H a (exo a (brC K) none))
  (fun v H2 => v = .non ∧ ∃ (d : Addr) (fs : List (Str × V)), H2 a = some (exo a (brC K) (some d)) ∧ H2 d = some (exd d fs) ∧ H d = none ∧ E (.ref (brC K)) (some d) (L2.upd (del H2 a) d (.xd fs))) (fun _ _ _ => False) := by
  refine ⟨by simp, fun a ha => ⟨a, .int i, rfl, upd_same, fun dx hdx hne => ⟨rfl, dx, [("index", .int i)], upd_same, ?_, ?_, ?_⟩⟩⟩
  · rw [upd_ne hne, upd_same]
  · rw [upd_ne hne] at hdx
    exact hdx
  · rw [upd_ne hne] at hdx
    refine h dx _ (fun b u hb => ?_) hdx upd_same
    have h1 : b ≠ dx := ne_of_none hb hdx
    have h2 : b ≠ a := ne_of_none hb ha
    rw [upd_ne h1, del_ne h2, upd_ne h2, upd_ne h1, upd_ne h2]
    exact hb
/-- a sequence of values, a list or a tuple -/
def Rl (K : PySem.W.Frag) (H : Hp) (a : Addr) (xs : List V) : Prop := SqL K H a xs ∨ SqT K H a xs
theorem Rl.leq {H H' : Hp} {a : Addr} {xs : List V} (e : Leq H H') (h : Rl K H a xs) : Rl K H' a xs := h.elim (fun q => .inl (SqL.leq e q)) fun q => .inr (SqT.leq e q)
/-- what is no rule among R -/
def BadR (K : PySem.W.Frag) (H : Hp) (R : List Str) (y : V) : Prop := (∃ k, KdAt K H y k) ∧ (∀ z, y = .str z → z.length ≤ sizeLine) ∧ (nameV y = false ∨ ∃ x ∈ R, y = .str x)
theorem BadR.leq {H H' : Hp} {R : List Str} {y : V} (e : Leq H H') (h : BadR K H R y) : BadR K H' R y := ⟨let ⟨k, q⟩ := h.1; ⟨k, KdAt.leq e q⟩, h.2⟩
/-- what stands for rules -/
inductive RulesIn (K : PySem.W.Frag) (H : Hp) : V → Sum (List Str) Nat → Prop where
  | no {v : V} {k : Kd} (h : KdAt K H v k) (n1 : k ≠ .lst) (n2 : k ≠ .tup) : RulesIn K H v (.inr 0)
  | ok {a : Addr} {R : List Str} (h : Rl K H a (R.map V.str)) (n : Names1 R) : RulesIn K H (.ref a) (.inl R)
  | bad {a : Addr} {R : List Str} {y : V} {rest : List V} (h : Rl K H a (R.map V.str ++ y :: rest)) (n : Names1 R) (b : BadR K H R y) (f : rest.length ≤ 60) : RulesIn K H (.ref a) (.inr R.length)
theorem RulesIn.leq {H H' : Hp} {v : V} {r : Sum (List Str) Nat} (e : Leq H H') (h : RulesIn K H v r) : RulesIn K H' v r := by
  cases h with
  | no h a b => exact .no (KdAt.leq e h) a b
  | ok h n => exact .ok (Rl.leq e h) n
  | bad h n b f => exact .bad (Rl.leq e h) n (BadR.leq e b) f
/-- a call whose rules are such: raises, or goes on as told -/
def RulesEnd (K : PySem.W.Frag) (H : Hp) (r : Sum (List Str) Nat) (E : XK) (go : List Str → Prop) : Prop := match r with
  | .inl R => go R
  | .inr i => RaisesAt K H i E
def sp_checked_rules (K : PySem.W.Frag) (w : World) : Sp := fun vs H Q E => ∃ (v : V) (r : Sum (List Str) Nat), vs = [v] ∧ RulesIn K H v r ∧ RulesEnd K H r E fun R => ∀ d H', Same H H' → H d = none → RulesD H' d R → Q (.ref d) H'
theorem enumA {σ : L2.St} {H0 H : Hp} {R : It → Hp → Prop} {i : Nat} {a : Addr} {xs : List V} (e : σ[i]? = some (some (.ref a))) (h : Rl K H0 a xs) (l : Leq H0 H)
    (q : ∀ J G, Walk J xs.length G (YPair (fun i => some (.int (i : Nat))) (fun i => xs[i]?)) → (∀ H', Leq H0 H' → G H') → R J H) : iEnum K (tCons (tVar i) tNil) σ H R ∨ iEnumT K (tCons (tVar i) tNil) σ H R := by
  rcases h with h | h
  · exact .inl ⟨_, e, a, xs, rfl, SqL.leq l h, q _ _ walk_enum fun H' l => SqL.leq l h⟩
  · exact .inr ⟨_, e, a, xs, rfl, SqT.leq l h, q _ _ walk_enumT fun H' l => SqT.leq l h⟩
theorem take_not {α : Type} {l : List α} (nd : l.Nodup) {i : Nat} {x : α} (h : l[i]? = some x) : x ∉ l.take i := fun hm => by
  obtain ⟨j, hj⟩ := List.mem_iff_getElem?.mp hm
  have hj' : j < i := by
    have := (List.getElem?_eq_some_iff.mp hj).1
    rw [List.length_take] at this
    omega
  rw [List.getElem?_take_of_lt hj'] at hj
  have := (List.getElem?_inj ((List.getElem?_eq_some_iff.mp hj).1) nd).mp (hj.trans h.symm)
  omega
theorem rd_none {R : List Str} {x : Str} (h : x ∉ R) : valV ((kS R).map fun k => (k, V.bl true)) (.inr x) = none := by
  cases e : valV ((kS R).map fun k => (k, V.bl true)) (.inr x) with
  | none => rfl
  | some v =>
    have := inS_iff (r := x) (R := R)
    rw [e, decide_eq_false h] at this
    cases this
theorem rd_snoc {R : List Str} {x : Str} (h : x ∉ R) : putK ((kS R).map fun k => (k, V.bl true)) (Sum.inr x : Key) (.bl true) = (kS (R ++ [x])).map fun k => (k, V.bl true) := by
  rw [putK_new _ (rd_none h), show kS (R ++ [x]) = kS R ++ [Sum.inr x] from List.map_append .., List.map_append]
  rfl

theorem sc_checked_rules : FnScope ["rules", "found", "index", "rule"] ["rules"] (defScope s_checked_rules) := ⟨rfl, rfl, rfl, by decide +kernel, rfl, by decide +kernel, by decide +kernel⟩
theorem ok_checked_rules (T : Tx K mg) (Br : BrTx K mg) (D : Df K mg "checked_rules" s_checked_rules) (c_is_list : Cal w K mg base CX0 1 "is_list" ["thing"] (sp_is_list K w)) (c_is_name : Cal w K mg base CX0 1 "is_name" ["thing"] (sp_is_name K w)) : Cal w K mg base (L2.CX Pg w) 4 "checked_rules" ["rules"] (sp_checked_rules K w) := by
  have nd := sc_checked_rules.nd
  refine D.ok (N := ["rules", "found", "index", "rule"]) sc_checked_rules (fun vs H Q E h => ?_) (fun _ _ _ _ _ _ us hl => match us, hl with | [_], _ => rfl) (fun cdv A outer s H vs Q E hr h => ?_)
  · obtain ⟨v, r, rfl, hv, hend⟩ := h
    rfl
  · have hu := hu_of hr
    obtain ⟨f1, F1, b1⟩ := ok_BR_init (w := w) (base := base) Br
    obtain ⟨v, r, rfl, hv, hend⟩ := h
    refine ⟨_, (pss_cons (ps_if (pt_not (pt_val (pe_cal rfl c_is_list (hr.mono (by first | decide | (simp only [Nat.add_eq]; omega))) pass0 (pa_cons (pv 0) pa_nil)))) (pss_one (ps_raise rfl (takes_of rfl rfl rfl rfl) (pmk_oex Br.oex Br.iC Br.tI F1 (hr.mono (by decide)) b1 .nil pass0 (by rfl) Br.g (pa_cons pe_int pa_nil)))) pss_nil)
      (pss_cons (ps_set (i := 1) nd rfl (by first | exact Or.inl rfl | exact Or.inr rfl) pe_dnewK)
      (pss_cons (ps_for (passes_of rfl) rfl (pi_or (pi_enum (by rfl) T.n_enumerate (pa_cons (pv 0) pa_nil)) (pi_enumT (by rfl) T.n_enumerate (pa_cons (pv 0) pa_nil))) (pg_tup rfl (pgs_cons (pg_name (i := 2) nd rfl (by first | exact Or.inl rfl | exact Or.inr rfl)) (pgs_cons (pg_name (i := 3) nd rfl (by first | exact Or.inl rfl | exact Or.inr rfl)) pgs_nil))) (pss_cons (ps_if (PW.pt (pw_or (pt_not (pt_val (pe_cal rfl c_is_name (hr.mono (by first | decide | (simp only [Nat.add_eq]; omega))) pass0 (pa_cons (pv 3) pa_nil)))) (pw_or1 (pt_cmp (pc_din hu (pv 3) (pv 1)) (by with_unfolding_all rfl))))) (pss_one (ps_raise rfl (takes_of rfl rfl rfl rfl) (pmk_oex Br.oex Br.iC Br.tI F1 (hr.mono (by decide)) b1 .nil pass0 (by rfl) Br.g (pa_cons (pv 2) pa_nil)))) pss_nil)
      (pss_one (ps_dput hu (pv 1) (pv 3) pe_bl rfl))))
      (pss_one (ps_ret (pv 1)))))), ?_⟩
    cases hv with
    | no hk n1 n2 =>
      rename_i kd
      refine ⟨_, rfl, _, _, rfl, hk, fun H1 s1 => ⟨_, rfl, ?_⟩⟩
      have hf : (kd.isa "list" || kd.isa "tuple") = false := by cases kd <;> first | rfl | exact absurd rfl n1 | exact absurd rfl n2
      rw [hf]
      exact raises_mk (w := w) (RaisesAt.same hend s1)
    | @ok a R hs hn =>
      have few := hn.few
      obtain ⟨kd, hk, hkt⟩ : ∃ kd, KdAt K H (.ref a) kd ∧ (kd.isa "list" || kd.isa "tuple") = true := hs.elim (fun h => ⟨.lst, .lst h, rfl⟩) fun h => ⟨.tup, .tup h, rfl⟩
      refine ⟨_, rfl, _, _, rfl, hk, fun H1 s1 => ⟨_, rfl, ?_⟩⟩
      rw [hkt]
      refine fun d hd => ?_
      have hd0 : H d = none := Same.free s1 hd
      have s2 : Same H (L2.upd H1 d (.dK [])) := Same.then s1 hd
      refine enumA (i := 0) rfl hs (Same.leq s2) fun J G wk hG => ?_
      rw [List.length_map] at wk
      refine for_it wk (fun i σ H2 => ∃ x y, σ = [some (.ref a), some (.ref d), x, y] ∧ Same H H2 ∧ RulesD H2 d (R.take i)) ⟨_, _, rfl, s2, upd_same⟩ (fun i σ H2 _ ⟨_, _, _, s3, _⟩ => hG _ (Same.leq s3)) ?_ ?_
      · rintro i v σ H2 H3 hi ⟨x, y, rfl, s3, hr3⟩ ⟨Tp, ix, st, rfl, hT, rfl, e1, e2⟩
        obtain ⟨z, hz, rfl⟩ := map_get e2
        cases e1
        have hzm := List.mem_of_getElem? hz
        have s4 := Same.then (o := .tup [.int (i : Nat), .str z]) s3 hT
        have hr4 := Same.new hT (o := .tup [.int (i : Nat), .str z]) _ _ hr3
        refine ⟨Tp, _, rfl, SqT.of upd_same, rfl, _, _, rfl, _, _, rfl, rfl, ?_⟩
        generalize L2.upd H2 Tp (.tup [.int (i : Nat), .str z]) = H4 at s4 hr4
        refine ⟨_, rfl, _, _, rfl, .str z, fun y e => ?_, fun H5 s5 => ⟨_, rfl, ?_⟩⟩
        · cases e
          exact hn.sz z hzm
        rw [show nameV (.str z) = true from hn.nm z hzm]
        have hr5 := s5 _ _ hr4
        have nin := take_not hn.nd hz
        refine ⟨_, rfl, _, rfl, d, _, rfl, DGet.k (k := .inr z) hr5, ?_⟩
        rw [inS_iff, decide_eq_false nin]
        refine ⟨_, rfl, _, rfl, _, rfl, d, _, rfl, DPut.k (k := .inr z) hr5 ?_, _, _, rfl, Same.over (Same.trans s4 s5) hd0, ?_⟩
        · rw [List.length_map, List.length_map, List.length_take]
          exact small1000 (by omega)
        · rw [rd_snoc nin, ← take_snoc hz]
          exact upd_same
      · rintro σ H2 ⟨x, y, rfl, s3, hr3⟩
        rw [List.take_length] at hr3
        exact ⟨_, rfl, hend d H2 s3 hd0 hr3⟩
    | @bad a R y rest hs hn hb hf =>
      have few := hn.few
      obtain ⟨kd, hk, hkt⟩ : ∃ kd, KdAt K H (.ref a) kd ∧ (kd.isa "list" || kd.isa "tuple") = true := hs.elim (fun h => ⟨.lst, .lst h, rfl⟩) fun h => ⟨.tup, .tup h, rfl⟩
      refine ⟨_, rfl, _, _, rfl, hk, fun H1 s1 => ⟨_, rfl, ?_⟩⟩
      rw [hkt]
      refine fun d hd => ?_
      have hd0 : H d = none := Same.free s1 hd
      have s2 : Same H (L2.upd H1 d (.dK [])) := Same.then s1 hd
      refine enumA (i := 0) rfl hs (Same.leq s2) fun J G wk hG => ?_
      refine for_it wk (fun i σ H2 => i ≤ R.length ∧ ∃ x y, σ = [some (.ref a), some (.ref d), x, y] ∧ Same H H2 ∧ RulesD H2 d (R.take i)) ⟨Nat.zero_le _, _, _, rfl, s2, upd_same⟩ (fun i σ H2 _ ⟨_, _, _, _, s3, _⟩ => hG _ (Same.leq s3)) ?_ ?_
      · rintro i v σ H2 H3 hi ⟨hle, x, y', rfl, s3, hr3⟩ ⟨Tp, ix, st, rfl, hT, rfl, e1, e2⟩
        cases e1
        have s4 := Same.then (o := .tup [.int (i : Nat), st]) s3 hT
        have hr4 := Same.new hT (o := .tup [.int (i : Nat), st]) _ _ hr3
        refine ⟨Tp, _, rfl, SqT.of upd_same, rfl, _, _, rfl, _, _, rfl, rfl, ?_⟩
        generalize L2.upd H2 Tp (.tup [.int (i : Nat), st]) = H4 at s4 hr4
        by_cases hiR : i < R.length
        · have e2 : (R.map V.str ++ y :: rest)[i]? = some st := e2
          rw [List.getElem?_append_left (by simpa using hiR)] at e2
          obtain ⟨z, hz, rfl⟩ := map_get e2
          have hzm := List.mem_of_getElem? hz
          refine ⟨_, rfl, _, _, rfl, .str z, fun y e => ?_, fun H5 s5 => ⟨_, rfl, ?_⟩⟩
          · cases e
            exact hn.sz z hzm
          rw [show nameV (.str z) = true from hn.nm z hzm]
          have hr5 := s5 _ _ hr4
          have nin := take_not hn.nd hz
          refine ⟨_, rfl, _, rfl, d, _, rfl, DGet.k (k := .inr z) hr5, ?_⟩
          rw [inS_iff, decide_eq_false nin]
          refine ⟨_, rfl, _, rfl, _, rfl, d, _, rfl, DPut.k (k := .inr z) hr5 ?_, hiR, _, _, rfl, Same.over (Same.trans s4 s5) hd0, ?_⟩
          · rw [List.length_map, List.length_map, List.length_take]
            exact small1000 (by omega)
          · rw [rd_snoc nin, ← take_snoc hz]
            exact upd_same
        · have ei : i = R.length := by omega
          subst ei
          have e2 : (R.map V.str ++ y :: rest)[R.length]? = some st := e2
          rw [List.getElem?_append_right (by simp)] at e2
          have ey : y = st := by simpa using e2
          subst ey
          rw [List.take_length] at hr4
          obtain ⟨k, hky⟩ := hb.1
          have ky4 := KdAt.leq (Same.leq s4) hky
          refine ⟨_, rfl, _, _, rfl, ky4, hb.2.1, fun H5 s5 => ⟨_, rfl, ?_⟩⟩
          have s45 := Same.trans s4 s5
          have hr5 := s5 _ _ hr4
          rcases hb.2.2 with hnv | ⟨z, hz, rfl⟩
          · rw [hnv]
            exact ⟨_, rfl, raises_mk (w := w) (RaisesAt.same hend s45)⟩
          · rw [show nameV (.str z) = true from hn.nm z hz]
            refine ⟨_, rfl, _, rfl, d, _, rfl, DGet.k (k := .inr z) hr5, ?_⟩
            rw [inS_iff, decide_eq_true hz]
            exact ⟨_, rfl, _, rfl, raises_mk (w := w) (RaisesAt.same hend s45)⟩
      · rintro σ H2 ⟨hle, _⟩
        rw [List.length_append, List.length_map, List.length_cons] at hle
        omega

end
end FF
namespace FF
open PySem PySem.Spec PyProof.Rows L2

theorem hu9_of {k : Nat} {A : Around} (hr : Room k A) : A.units + 9 < cLine := by have := hr.units; omega
section
variable {J : It} {n : Nat} {G : Hp → Prop} {Y : Nat → Hp → V → Hp → Prop} {g : TG} {tt : TT} {tk tv : TE} {vs : List Nat} {σ : L2.St} {H1 : Hp} {D : Addr} {Qd : Hp → Prop} {w : World} {K : PySem.W.Frag}
/-- a dict comprehension with words as keys, over what walks -/
theorem wc_it (wk : Walk J n G Y) (Pv : Nat → Hp → Prop) (h0 : Pv 0 (L2.upd H1 D (WDo w D [] 0))) (hG : ∀ i H, i ≤ n → Pv i H → G H)
    (hs : ∀ i x H H', i < n → Pv i H → Y i H x H' → g x (wipe σ vs) H' fun σ2 H2 => wipe σ2 vs = wipe σ vs ∧ tt σ2 H2 fun b H3 =>
      if b = true then tk σ2 H3 fun y H4 => tv σ2 H4 fun z H5 => ∃ es ep k, WdAt K H5 y k ∧ H5 D = some (WDo w D es ep) ∧ (∀ e ∈ es, WdAt K H5 e.2.1 e.1) ∧ k ∉ es.map (·.1) ∧ es.length < sizeLine ∧ Pv (i + 1) (L2.upd H5 D (WDo w D (es ++ [(k, y, z)]) (ep + 1))) else Pv (i + 1) H3) (hd : ∀ H, Pv n H → Qd H) :
    ∃ W : Nat → Nat → Hp → Prop, (∃ m, W 0 m (L2.upd H1 D (WDo w D [] 0))) ∧ ∀ i m H, W i m H →
      (J.stop i H ∧ Qd H) ∨ (J.go i H ∧ ∃ Nx : Hp → Prop, (∀ H', Nx H' → ∃ m', m' < m ∧ W (i + 1) m' H') ∧ ∀ x H', J.yld i H x H' → g x (wipe σ vs) H' fun σ2 H2 => wipe σ2 vs = wipe σ vs ∧ tt σ2 H2 fun b H3 =>
        if b = true then tk σ2 H3 fun y H4 => tv σ2 H4 fun z H5 => ∃ es ep k, WdAt K H5 y k ∧ H5 D = some (WDo w D es ep) ∧ (∀ e ∈ es, WdAt K H5 e.2.1 e.1) ∧ k ∉ es.map (·.1) ∧ es.length < sizeLine ∧ Nx (L2.upd H5 D (WDo w D (es ++ [(k, y, z)]) (ep + 1))) else Nx H3) := by
  refine ⟨fun i m H => m + i = n ∧ Pv i H, ⟨n, by omega, h0⟩, fun i m H ⟨e, p⟩ => ?_⟩
  rcases Nat.lt_or_ge i n with hlt | hge
  · exact .inr ⟨wk.goes i H hlt (hG i H (Nat.le_of_lt hlt) p), Pv (i + 1), fun H' p' => ⟨m - 1, by omega, by omega, p'⟩, fun x H' y => hs i x H H' hlt p (wk.yields i H x H' hlt (hG i H (Nat.le_of_lt hlt) p) y)⟩
  · have : i = n := by omega
    subst this
    exact .inl ⟨wk.stops H (hG i H (Nat.le_refl _) p), hd H p⟩
end
/-! ### the graph that a play and rules make -/
def goodS (R : List Str) (h : Nat) (sts : List StepD) : List StepD := (rowOf h sts).filter fun st => !barB R st.bars
def grOf (many : Nat) (sts : List StepD) (R : List Str) : Gr := (List.range many).map fun h => (goodS R h sts).map fun st => (st.k, st.other)
theorem grOf_len {many : Nat} {sts : List StepD} {R : List Str} : (grOf many sts R).length = many := by unfold grOf; rw [List.length_map, List.length_range]
theorem grOf_row {many : Nat} {sts : List StepD} {R : List Str} {h : Nat} (lt : h < many) : row (grOf many sts R) h = (goodS R h sts).map fun st => (st.k, st.other) := by
  unfold row grOf
  rw [List.getD_eq_getElem?_getD, List.getElem?_map, List.getElem?_range lt]
  rfl
theorem grOf_ok {many : Nat} {sts : List StepD} {R : List Str} (h : StepsOk many sts) (pos : 1 ≤ many) : GrOk (grOf many sts R) := by
  refine ⟨by rw [grOf_len]; omega, fun s wd u hm => ?_, fun s => ?_⟩
  · rw [grOf_len]
    rcases Nat.lt_or_ge s many with lt | ge
    · rw [grOf_row lt] at hm
      obtain ⟨st, hst, e⟩ := List.mem_map.mp hm
      cases e
      exact h.other st (List.mem_filter.mp (List.mem_filter.mp hst).1).1
    · rw [row_out (by rw [grOf_len]; exact ge)] at hm
      cases hm
  · rcases Nat.lt_or_ge s many with lt | ge
    · rw [grOf_row lt, List.map_map]
      exact (h.nd s).sublist (List.filter_sublist.map _)
    · rw [row_out (by rw [grOf_len]; exact ge)]
      exact List.nodup_nil
theorem grOf_few {many : Nat} {sts : List StepD} {R : List Str} (h : StepsOk many sts) (s : Nat) : (row (grOf many sts R) s).length ≤ 60 := by
  rcases Nat.lt_or_ge s many with lt | ge
  · rw [grOf_row lt, List.length_map]
    have h1 : (goodS R s sts).length ≤ (rowOf s sts).length := List.length_filter_le _ _
    have h2 : (rowOf s sts).length ≤ sts.length := List.length_filter_le _ _
    have := h.few
    omega
  · rw [row_out (by rw [grOf_len]; exact ge)]
    exact Nat.zero_le _
theorem barB_perm {R a b : List Str} (h : a.Perm b) : barB R a = barB R b := by
  unfold barB
  induction h with
  | nil => rfl
  | cons x _ ih => simp only [List.any_cons, ih]
  | swap x y l => simp only [List.any_cons, ← Bool.or_assoc, Bool.or_comm]
  | trans _ _ i1 i2 => exact i1.trans i2
section
variable {w : World} {K : PySem.W.Frag} {mg : Str → Option Value} {base : Heap}
/-- an entry of a table's row -/
def Estep (K : PySem.W.Frag) (H : Hp) (e : Ent) (m : Wd × Nat) : Prop := e.1 = m.1 ∧ WdAt K H e.2.1 e.1 ∧ e.2.2 = iV m.2
theorem Estep.tle {H H' : Hp} {e : Ent} {m : Wd × Nat} (t : Tle H H') (h : Estep K H e m) : Estep K H' e m := ⟨h.1, WdAt.tle t h.2.1, h.2.2⟩
def RowAt (K : PySem.W.Frag) (w : World) (H : Hp) (d : Addr) (r : Row) : Prop := ∃ es ep, H d = some (WDo w d es ep) ∧ Paired (Estep K H) es r
theorem RowAt.but {H H' : Hp} {d : Addr} {r : Row} (t : Tle H H') (e : H' d = H d) (h : RowAt K w H d r) : RowAt K w H' d r := let ⟨es, ep, h1, h2⟩ := h; ⟨es, ep, e.trans h1, paired_map h2 fun _ _ q => Estep.tle t q⟩
theorem RowAt.same {H H' : Hp} {d : Addr} {r : Row} (s : Same H H') (h : RowAt K w H d r) : RowAt K w H' d r := let ⟨es, ep, h1, h2⟩ := h; ⟨es, ep, s _ _ h1, paired_map h2 fun _ _ q => Estep.tle (Same.tle s) q⟩
structure TabAt (K : PySem.W.Frag) (w : World) (H : Hp) (p : Addr) (G : Gr) (ds : List Addr) : Prop where
  lst : H p = some (.lst (ds.map V.ref))
  len : ds.length = G.length
  rows : ∀ h d, ds[h]? = some d → RowAt K w H d (row G h)
theorem TabAt.same {H H' : Hp} {p : Addr} {G : Gr} {ds : List Addr} (s : Same H H') (h : TabAt K w H p G ds) : TabAt K w H' p G ds :=
  ⟨s _ _ h.lst, h.len, fun i d hd => RowAt.same s (h.rows i d hd)⟩
theorem paired_keysS {H : Hp} {es : List Ent} {r : Row} (h : Paired (Estep K H) es r) : es.map (·.1) = r.map (·.1) := by
  induction h with
  | nil => rfl
  | cons p _ ih => rw [List.map_cons, List.map_cons, ih, p.1]
theorem paired_wordsS {H : Hp} {es : List Ent} {r : Row} (h : Paired (Estep K H) es r) : ∀ e ∈ es, WdAt K H e.2.1 e.1 := by
  induction h with
  | nil => exact fun _ hx => nomatch hx
  | cons p _ ih =>
    intro x hx
    rcases List.mem_cons.mp hx with rfl | hx
    · exact p.2.1
    · exact ih x hx
theorem kv_at {es : List Ent} (nd : (es.map (·.1)).Nodup) {i : Nat} {e : Ent} (h : es[i]? = some e) : valV (kvOf es) e.1 = some e.2.2 :=
  valV_at (by rw [kvOf_keys]; exact nd) (i := i) (by rw [List.getElem?_map, h]; rfl)
def sp_steps_under (K : PySem.W.Frag) (w : World) : Sp := fun vs H Q _ => ∃ (a d : Addr) (many : Nat) (sts : List StepD) (bad : List Nat) (R : List Str), vs = [.ref a, .ref d] ∧ PlayAt K w H a many sts bad ∧ RulesD H d R ∧ StepsOk many sts ∧ (∀ st ∈ sts, st.bars.length ≤ 60) ∧ many ≤ 60 ∧
  ∀ (p : Addr) (H' : Hp) (ds : List Addr), Same H H' → H p = none → TabAt K w H' p (grOf many sts R) ds → Q (.ref p) H'

theorem sc_steps_under : FnScope ["play", "rules", "found", "row", "word"] ["play", "rules"] (defScope s_steps_under) := ⟨rfl, rfl, rfl, by decide +kernel, rfl, by decide +kernel, by decide +kernel⟩
theorem ok_steps_under (T : Tx K mg) (Pl : PlTx K mg) (D : Df K mg "steps_under" s_steps_under) (c_can_be_done : Cal w K mg base CX0 1 "can_be_done" ["step", "rules"] (sp_can_be_done K w)) : Cal w K mg base CX0 2 "steps_under" ["play", "rules"] (sp_steps_under K w) := by
  have nd := sc_steps_under.nd
  refine D.ok (N := ["play", "rules", "found", "row", "word"]) sc_steps_under (fun vs H Q E h => ?_) (fun _ _ _ _ _ _ us hl => match us, hl with | [_, _], _ => rfl) (fun cdv A outer s H vs Q E hr h => ?_)
  · obtain ⟨a, d, many, sts, bad, R, rfl, ⟨dx, t, b, dsP, ms, hP, hT, hb, hms⟩, hd, hok, hbars, h60, q⟩ := h
    rfl
  · have hu := hu_of hr
    have hu9 := hu9_of hr
    obtain ⟨a, d, many, sts, bad, R, rfl, ⟨dx, t, b, dsP, ms, hP, hT, hb, hms⟩, hd, hok, hbars, h60, q⟩ := h
    refine ⟨_, PSs.nox (pss_cons (ps_set (i := 2) nd rfl (by first | exact Or.inl rfl | exact Or.inr rfl) (pe_lst pa_nil))
      (pss_cons (ps_for PassesOwn.never rfl (pi_list (pe_fld (pv 0) rfl)) (pg_name (i := 3) nd rfl (by first | exact Or.inl rfl | exact Or.inr rfl)) (pss_one (ps_expr (pe_bm PySem.F.plainAttrs_list PySem.F.slot_list_append PySem.F.type_list_append mt_append (pv 2) (pa_cons (pe_wc (own := [("word", 4)]) (Nat.lt_of_succ_lt hu9) (by rfl) nd (pi_words (pv 3)) (blkOk_by (own := [("word", 4)]) (N := ["play", "rules", "found", "row", "word"]) (sc := defScope s_steps_under) (by decide +kernel)) (fun _ _ _ _ _ => (pg_name (i := 4) nd rfl (by first | exact Or.inl rfl | exact Or.inr rfl))) (fun _ _ _ _ _ => (pts_one (pt_val (pe_cal rfl c_can_be_done (hr.mono (by first | decide | (simp only [Nat.add_eq]; omega))) pass0 (pa_cons (pe_ix (show IxR _ (rIxW K w) from ix_W hu9) (pv 3) (pv 4) (fun _ _ => rfl)) (pa_cons (pv 1) pa_nil)))))) (fun _ _ _ _ _ => (pv 4)) (fun _ _ _ _ _ => (pe_ix (show IxR _ (rIxT K) from ix_tup) (pe_ix (show IxR _ (rIxW K w) from ix_W hu9) (pv 3) (pv 4) (fun _ _ => rfl)) pe_int (fun _ _ => rfl)))) pa_nil)))))
      (pss_one (ps_ret (pv 2))))), ?_⟩
    refine ⟨by decide, fun p hp => ?_⟩
    have s0 : Same H (L2.upd H p (.lst [])) := Same.new hp
    have hT0 := TblAt.same s0 hT
    refine ⟨_, rfl, a, plC K, dx, _, _, rfl, s0 _ _ hP, Pl.cl, Pl.n1, rfl, t, rfl, ⟨_, SqL.of hT0.lst⟩, ?_⟩
    refine for_list (K := K) (a := t) (xs := dsP.map V.ref) (fun i σ H1 => ∃ x4 x5, σ = [some (.ref a), some (.ref d), some (.ref p), x4, x5] ∧ Same H H1 ∧ ∃ ds : List Addr, H1 p = some (.lst (ds.map V.ref)) ∧ ds.length = i ∧ ∀ h d', ds[h]? = some d' → RowAt K w H1 d' (row (grOf many sts R) h)) ⟨_, _, rfl, s0, [], upd_same, rfl, fun _ _ z => nomatch z⟩ (fun i σ H1 _ ⟨_, _, _, s1, _⟩ => SqL.of (TblAt.same s1 hT).lst) ?_ ?_
    · rintro i x σ H1 hi ⟨x4, x5, rfl, s1, ds, hp1, hl, hrows⟩
      obtain ⟨dr, hdr, rfl⟩ := map_get hi
      have hT1 := TblAt.same s1 hT
      obtain ⟨es, ep, hes, hpe⟩ := hT1.rows _ _ hdr
      refine ⟨_, rfl, .inl ⟨rfl, _, SqL.of hp1⟩, ?_⟩
      refine ⟨_, rfl, dr, es, ep, rfl, hes, fun D hD => ?_⟩
      have hlt : i < many := by have := (List.getElem?_eq_some_iff.mp hdr).1; rw [hT.len] at this; exact this
      have hlp : es.length = (rowOf i sts).length := Paired.length hpe
      have hrow60 : (rowOf i sts).length ≤ 60 := Nat.le_trans (List.length_filter_le _ _) hok.few
      have hnd : (es.map (·.1)).Nodup := by rw [paired_keys hpe]; exact hok.nd i
      refine wc_it (w := w) (K := K) walk_words (fun j H2 => Same H1 H2 ∧ ∃ es2 ep2, H2 D = some (WDo w D es2 ep2) ∧ Paired (Estep K H2) es2 (((rowOf i sts).take j).filter (fun st => !barB R st.bars) |>.map fun st => (st.k, st.other))) ⟨Same.new hD, [], 0, upd_same, .nil⟩ (fun j H2 _ ⟨s2, _⟩ => s2 _ _ hes) (fun j x H2 H3 hj ⟨s2, es2, ep2, hD2, hp2⟩ ⟨e3, en, hen, ex⟩ => ?_) (fun H2 ⟨s2, es2, ep2, hD2, hp2⟩ => ?_)
      · subst e3 ex
        obtain ⟨st, hst, hk1, hk2, hk3⟩ := paired_get hpe hen
        obtain ⟨sa, bt, wv, sd, bars, e4, k1, k2, k3, k4⟩ := id hk3
        have hkv := kv_at hnd hen
        have hstm : st ∈ sts := (List.mem_filter.mp (List.mem_of_getElem? hst)).1
        have hwd3 : WdAt K H3 en.2.1 en.1 := WdAt.tle (Same.tle s2) hk2
        have hWD : ∀ {H'}, Same H1 H' → WD K w H' dr es := fun s' => ⟨⟨ep, s' _ _ hes⟩, fun e he => WdAt.tle (Same.tle s') (paired_words hpe e he)⟩
        have s13 := Same.trans s1 s2
        refine ⟨rfl, _, rfl, _, rfl, dr, es, en.1, en.2.2, rfl, hwd3, hWD s2, hkv, _, rfl, sa, d, bt, R, bars, wv, iV st.one, iV st.other, sd, congrArg (fun z => [z, V.ref d]) e4, SqT.of (s2 _ _ k1), SqT.of (s2 _ _ k3), by rw [k4.length_eq]; exact hbars st hstm, s13 _ _ hd, fun H4 s4 => ⟨_, rfl, ?_⟩⟩
        have s24 := Same.trans s2 s4
        rw [barB_perm k4, take_snoc hst, List.filter_append, List.map_append]
        cases hbb : barB R st.bars with
        | true =>
          refine ⟨s24, es2, ep2, s4 _ _ hD2, ?_⟩
          have e5 : ([st].filter fun st => !barB R st.bars) = [] := by simp [hbb]
          rw [e5, List.map_nil, List.append_nil]
          exact paired_map hp2 fun _ _ q => Estep.tle (Same.tle s4) q
        | false =>
          have e5 : ([st].filter fun st => !barB R st.bars) = [st] := by simp [hbb]
          rw [e5]
          have hp4 := paired_map hp2 fun _ _ q => Estep.tle (Same.tle s4) q
          have hD4 := s4 _ _ hD2
          have hwd4 := WdAt.tle (Same.tle s24) hk2
          have hpre : es2.map (·.1) = (((rowOf i sts).take j).filter (fun st => !barB R st.bars)).map (·.k) := by rw [paired_keysS hp4, List.map_map]; rfl
          have hnin : en.1 ∉ es2.map (·.1) := by
            rw [hpre, hk1]
            intro hm
            obtain ⟨s', hs', e'⟩ := List.mem_map.mp hm
            have h1 := (List.mem_filter.mp hs').1
            have h2 : st.k ∉ ((rowOf i sts).map (·.k)).take j := take_not (hok.nd i) (by rw [List.getElem?_map, hst]; rfl)
            rw [← List.map_take] at h2
            exact h2 (List.mem_map.mpr ⟨s', h1, e'⟩)
          have hlen2 : es2.length < sizeLine := by
            have e6 := Paired.length hp4
            rw [List.length_map] at e6
            have e7 : (((rowOf i sts).take j).filter (fun st => !barB R st.bars)).length ≤ ((rowOf i sts).take j).length := List.length_filter_le _ _
            rw [List.length_take] at e7
            exact small1000 (by omega)
          refine ⟨_, rfl, _, rfl, _, rfl, dr, es, en.1, en.2.2, rfl, hwd4, hWD s24, hkv, sa, _, 2, iV st.other, e4, rfl, SqT.of (s24 _ _ k1), atI_nat (j := 2) rfl, ?_⟩
          refine ⟨es2, ep2, en.1, hwd4, hD4, paired_wordsS hp4, hnin, hlen2, ?_⟩
          have hD1 : H1 D = none := hD
          have t4 : Tle H4 (L2.upd H4 D (WDo w D (es2 ++ [(en.1, en.2.1, iV st.other)]) (ep2 + 1))) := Tle.but hD4 (fun _ z => nomatch z) (fun _ _ z => nomatch z) fun b u hb q => by rw [upd_ne hb]; exact q
          refine ⟨Same.over s24 hD1, _, _, upd_same, paired_snoc (paired_map hp4 fun _ _ q => Estep.tle t4 q) ⟨hk1, WdAt.tle t4 hwd4, rfl⟩⟩
      · rw [hlp, List.take_length] at hp2
        have hp2' := s2 _ _ hp1
        have s12 := Same.trans s1 s2
        refine ⟨p, _, .ref D, rfl, rfl, hp2', ?_, _, _, rfl, Same.over s12 hp, ds ++ [D], by rw [upd_same, List.map_append]; rfl, by rw [List.length_append, hl]; rfl, fun h d' hd' => ?_⟩
        · rw [List.length_map]
          exact small1000 (by omega)
        · have t2 : Tle H2 (L2.upd H2 p (.lst (ds.map V.ref ++ [.ref D]))) := Tle.but hp2' (fun _ z => nomatch z) (fun _ _ z => nomatch z) fun b u hb q => by rw [upd_ne hb]; exact q
          rcases Nat.lt_or_ge h ds.length with lt | ge
          · rw [List.getElem?_append_left lt] at hd'
            have r1 := RowAt.same s2 (hrows h d' hd')
            obtain ⟨_, _, r2, _⟩ := id r1
            exact RowAt.but t2 (by rw [upd_ne (ne_of r2 hp2' (fun z => nomatch z))]) r1
          · have e8 : h = i := by
              have := (List.getElem?_eq_some_iff.mp hd').1
              rw [List.length_append, List.length_singleton] at this
              omega
            subst e8
            rw [List.getElem?_append_right ge, hl, Nat.sub_self] at hd'
            cases hd'
            rw [grOf_row hlt]
            exact RowAt.but t2 (by rw [upd_ne (ne_of hD2 hp2' (fun z => nomatch z))]) ⟨es2, ep2, hD2, hp2⟩
    · rintro σ H1 ⟨x4, x5, rfl, s1, ds, hp1, hl, hrows⟩
      rw [List.length_map, hT.len] at hl
      exact ⟨_, rfl, q p H1 ds s1 hp ⟨hp1, hl.trans grOf_len.symm, hrows⟩⟩

end
end FF
namespace FF
open PySem PySem.Spec PyProof.Rows L2
section
variable {w : World} {K : PySem.W.Frag} {mg : Str → Option Value} {base : Heap}

/-- a run: a list of words -/
def RunAt (K : PySem.W.Frag) (H : Hp) (v : V) (ws : List Wd) : Prop := ∃ a xs, v = .ref a ∧ H a = some (.lst xs) ∧ Paired (WdAt K H) xs ws
theorem RunAt.same {H H' : Hp} {v : V} {ws : List Wd} (s : Same H H') (h : RunAt K H v ws) : RunAt K H' v ws := let ⟨a, xs, h1, h2, h3⟩ := h; ⟨a, xs, h1, s _ _ h2, paired_map h3 fun _ _ q => WdAt.tle (Same.tle s) q⟩
theorem RunAt.but {H H' : Hp} {v : V} {ws : List Wd} (t : Tle H H') (e : ∀ a xs, v = .ref a → H a = some (.lst xs) → H' a = some (.lst xs)) (h : RunAt K H v ws) : RunAt K H' v ws := let ⟨a, xs, h1, h2, h3⟩ := h; ⟨a, xs, h1, e a xs h1 h2, paired_map h3 fun _ _ q => WdAt.tle t q⟩
/-- what is found: a dict of runs -/
def FndKv (K : PySem.W.Frag) (H : Hp) (p : Key × V) (x : Nat × List Wd) : Prop := p.1 = kN x.1 ∧ RunAt K H p.2 x.2
def FndAt (K : PySem.W.Frag) (H : Hp) (d : Addr) (F : Fnd) : Prop := ∃ kvs, H d = some (.dK kvs) ∧ Paired (FndKv K H) kvs F
theorem FndAt.same {H H' : Hp} {d : Addr} {F : Fnd} (s : Same H H') (h : FndAt K H d F) : FndAt K H' d F := let ⟨kvs, h1, h2⟩ := h; ⟨kvs, s _ _ h1, paired_map h2 fun _ _ q => ⟨q.1, RunAt.same s q.2⟩⟩
theorem fnd_keys {H : Hp} {kvs : List (Key × V)} {F : Fnd} (h : Paired (FndKv K H) kvs F) : kvs.map (·.1) = kI (F.map (·.1)) := by
  induction h with
  | nil => rfl
  | cons p _ ih => rw [List.map_cons, List.map_cons, ih, p.1]; rfl
theorem kI_mem {l : List Nat} {n : Nat} : kN n ∈ kI l ↔ n ∈ l := by
  constructor
  · intro h
    obtain ⟨m, hm, e⟩ := List.mem_map.mp h
    exact kN_inj e ▸ hm
  · exact fun h => List.mem_map.mpr ⟨n, h, rfl⟩
theorem val_kI {κ : Type} [DecidableEq κ] {kvs : List (κ × V)} {k : κ} {b : Bool} (h : k ∈ kvs.map (·.1) ↔ b = true) : (valV kvs k).isSome = b := by
  cases e : valV kvs k with
  | some v =>
    have := h.mp (valV_in e)
    rw [this]
    rfl
  | none =>
    cases b with
    | false => rfl
    | true => exact absurd (h.mpr rfl) (valV_not e)
theorem fnd_in {H : Hp} {kvs : List (Key × V)} {F : Fnd} (h : Paired (FndKv K H) kvs F) (n : Nat) : (valV kvs (kN n)).isSome = decide (n ∈ F.map (·.1)) := by
  refine val_kI ?_
  rw [fnd_keys h, kI_mem, decide_eq_true_iff]
theorem paired_at {α β : Type} {F : α → β → Prop} {l : List α} {m : List β} (h : Paired F l m) {i : Nat} {y : β} (e : m[i]? = some y) : ∃ x, l[i]? = some x ∧ F x y := by
  have hl := Paired.length h
  have hi : i < l.length := by rw [hl]; exact (List.getElem?_eq_some_iff.mp e).1
  obtain ⟨y', e', f⟩ := paired_get h (List.getElem?_eq_getElem hi)
  rw [e] at e'
  cases e'
  exact ⟨_, List.getElem?_eq_getElem hi, f⟩
/-- .., and P of the values -/
def FndP (K : PySem.W.Frag) (H : Hp) (P : V → Prop) (d : Addr) (F : Fnd) : Prop := ∃ kvs, H d = some (.dK kvs) ∧ Paired (fun p x => FndKv K H p x ∧ P p.2) kvs F
theorem FndP.imp {H : Hp} {P P' : V → Prop} {d : Addr} {F : Fnd} (f : ∀ v, P v → P' v) (h : FndP K H P d F) : FndP K H P' d F := let ⟨kvs, h1, h2⟩ := h; ⟨kvs, h1, paired_map h2 fun _ _ q => ⟨q.1, f _ q.2⟩⟩
/-- a new list's place -/
def New (H : Hp) (v : V) : Prop := ∃ a, v = .ref a ∧ H a = none
/-- the runs are no longer than their places -/
def Sh (F : Fnd) : Prop := ∀ (j : Nat) (x : Nat × List Wd), F[j]? = some x → x.2.length ≤ j
theorem Sh.add {F : Fnd} {run : List Wd} {m : Wd × Nat} (h : Sh F) (hr : run.length < F.length) : Sh (addM run F m) := by
  unfold addM
  split
  · exact h
  · intro j x hx
    rcases Nat.lt_or_ge j F.length with lt | ge
    · rw [List.getElem?_append_left lt] at hx
      exact h j x hx
    · have e : j = F.length := by
        have := (List.getElem?_eq_some_iff.mp hx).1
        rw [List.length_append, List.length_singleton] at this
        omega
      subst e
      rw [List.getElem?_append_right (Nat.le_refl _), Nat.sub_self] at hx
      cases hx
      show (run ++ [m.1]).length ≤ F.length
      rw [List.length_append, List.length_singleton]
      exact hr
theorem Sh.row {run : List Wd} : ∀ (r : Row) {F : Fnd}, Sh F → run.length < F.length → Sh (procR run F r)
  | [], F, h, _ => h
  | m :: r, F, h, hr => by
    obtain ⟨E, e⟩ := addM_pre run F m
    exact Sh.row r (h.add hr) (by rw [e, List.length_append]; omega)
def sp_shortest_runs (K : PySem.W.Frag) (w : World) : Sp := fun vs H Q _ => ∃ (t : Addr) (G : Gr) (ds : List Addr), vs = [.ref t] ∧ TabAt K w H t G ds ∧ GrOk G ∧ G.length ≤ 60 ∧ (∀ s, (row G s).length ≤ 60) ∧
  ∀ (d : Addr) (H' : Hp), Same H H' → H d = none → FndP K H' (New H) d (bfs G) → Q (.ref d) H'

theorem sc_shortest_runs : FnScope ["table", "found", "waiting", "for_later", "here", "word"] ["table"] (defScope s_shortest_runs) := ⟨rfl, rfl, rfl, by decide +kernel, rfl, by decide +kernel, by decide +kernel⟩
theorem ok_shortest_runs (T : Tx K mg)  (D : Df K mg "shortest_runs" s_shortest_runs)  : Cal w K mg base CX0 1 "shortest_runs" ["table"] (sp_shortest_runs K w) := by
  have nd := sc_shortest_runs.nd
  refine D.ok (N := ["table", "found", "waiting", "for_later", "here", "word"]) sc_shortest_runs (fun vs H Q E h => ?_) (fun _ _ _ _ _ _ us hl => match us, hl with | [_], _ => rfl) (fun cdv A outer s H vs Q E hr h => ?_)
  · obtain ⟨t, G, ds, rfl, hT, hG, h60, hr60, q⟩ := h
    rfl
  · have hu := hu_of hr
    have hu9 := hu9_of hr
    obtain ⟨t, G, ds, rfl, hT, hG, h60, hr60, q⟩ := h
    refine ⟨_, PSs.nox (pss_cons (ps_par (i := 1) (j := 2) rfl nd rfl rfl (by decide) rfl rfl (pa_cons (pe_disp (pps_cons pe_int (pe_lst pa_nil) pps_nil) (by rfl) (by rfl) (fun z => by cases z) (by decide)) (pa_cons (pe_lst (pa_cons pe_int pa_nil)) pa_nil)) (by rfl))
      (pss_cons (ps_set (i := 3) nd rfl (by first | exact Or.inl rfl | exact Or.inr rfl) pe_int)
      (pss_cons (ps_while PassesOwn.never (pt_cmpR op_lt (pv 3) (pe_callB call_len_seq (by rfl) T.n_len (by decide +kernel) (pa_cons (pv 2) pa_nil)) (nomark _)) (pss_cons (ps_set (i := 4) nd rfl (by first | exact Or.inl rfl | exact Or.inr rfl) (pe_ix ix_list (pv 2) (pv 3) (fun _ _ => rfl)))
      (pss_cons (ps_aug (i := 3) nd rfl (by first | exact Or.inl rfl | exact Or.inr rfl) pe_int ip_add)
      (pss_one (ps_for PassesOwn.never rfl (pi_words (pe_ix ix_list (pv 0) (pv 4) (fun _ _ => rfl))) (pg_name (i := 5) nd rfl (by first | exact Or.inl rfl | exact Or.inr rfl)) (pss_one (ps_if (pt_cmp (pc_dnotin hu (pe_ix (ix_W hu9) (pe_ix ix_list (pv 0) (pv 4) (fun _ _ => rfl)) (pv 5) (fun _ _ => rfl)) (pv 1)) (by with_unfolding_all rfl)) (pss_cons (ps_dput hu (pv 1) (pe_ix (ix_W hu9) (pe_ix ix_list (pv 0) (pv 4) (fun _ _ => rfl)) (pv 5) (fun _ _ => rfl)) (pe_op op_cat (pe_dget hu (pv 1) (pv 4) (fun _ _ => rfl)) (pe_lst (pa_cons (pv 5) pa_nil))) rfl)
      (pss_one (ps_expr (pe_bm PySem.F.plainAttrs_list PySem.F.slot_list_append PySem.F.type_list_append mt_append (pv 2) (pa_cons (pe_ix (ix_W hu9) (pe_ix ix_list (pv 0) (pv 4) (fun _ _ => rfl)) (pv 5) (fun _ _ => rfl)) pa_nil))))) pss_nil)))))))
      (pss_one (ps_ret (pv 1)))))), ?_⟩
    refine fun d hd => ⟨by decide, fun p0 hp0 => ?_⟩
    have nd0 : p0 ≠ d := fun e => by rw [e, upd_same] at hp0; cases hp0
    refine ⟨by rw [upd_ne nd0.symm, upd_same], [(kN 0, .ref p0)], rfl, by simp, (by decide : 1 ≤ sizeLine), fun wl hwl => ⟨_, _, rfl, ?_⟩⟩
    have e0 : mergeK [] [(kN 0, V.ref p0)] = [(kN 0, V.ref p0)] := rfl
    rw [e0] at hwl ⊢
    have hp00 : H p0 = none := by rw [upd_ne nd0] at hp0; exact hp0
    have s0 : Same H (L2.upd (L2.upd (L2.upd H d (.dK [])) p0 (.lst [])) d (.dK [(kN 0, .ref p0)])) := Same.over (Same.then (Same.new hd) hp0) hd
    have hd0 : (L2.upd (L2.upd (L2.upd H d (.dK [])) p0 (.lst [])) d (.dK [(kN 0, .ref p0)])) d = some (.dK [(kN 0, .ref p0)]) := upd_same
    have hp1 : (L2.upd (L2.upd (L2.upd H d (.dK [])) p0 (.lst [])) d (.dK [(kN 0, .ref p0)])) p0 = some (.lst []) := by rw [upd_ne nd0, upd_same]
    generalize L2.upd (L2.upd (L2.upd H d (.dK [])) p0 (.lst [])) d (.dK [(kN 0, .ref p0)]) = H0 at hwl s0 hd0 hp1 ⊢
    have hwlH : H wl = none := Same.free s0 hwl
    have ndw : d ≠ wl := fun e => by rw [e, hwl] at hd0; cases hd0
    have s1 : Same H (L2.upd H0 wl (.lst [.int 0])) := Same.then s0 hwl
    have f1 : FndP K (L2.upd H0 wl (.lst [.int 0])) (fun v => v ≠ .ref wl ∧ New H v) d [(0, [])] := ⟨_, Same.new hwl _ _ hd0, .cons ⟨⟨rfl, p0, [], rfl, Same.new hwl _ _ hp1, .nil⟩, ⟨fun e => (by cases e; rw [hwl] at hp1; cases hp1), p0, rfl, hp00⟩⟩ .nil⟩
    refine ⟨fun m σ H1 => ∃ i F x4 x5, σ = [some (.ref t), some (.ref d), some (.ref wl), some (iV i), x4, x5] ∧ Same H H1 ∧ FndP K H1 (fun v => v ≠ .ref wl ∧ New H v) d F ∧ H1 wl = some (.lst (F.map fun x => iV x.1)) ∧ BInv G F i ∧ Sh F ∧ m + i = G.length + 1 ∧ bfsGo G m F i = bfs G,
      ⟨G.length + 1, 0, _, _, _, rfl, s1, f1, upd_same, BInv.start hG, fun j x hx => (by cases j with | zero => cases hx; exact Nat.le_refl _ | succ j => cases hx), rfl, rfl⟩, ?_⟩
    rintro m σ H1 ⟨i, F, x4, x5, rfl, s1, hF, hw, hB, hsh, hm, he⟩
    have hlen : F.length ≤ G.length := hB.len
    refine ⟨_, rfl, _, rfl, wl, _, rfl, .inl (SqL.of hw), _, _, rfl, rfl, _, rfl, ?_⟩
    rw [List.length_map]
    by_cases hi : i < F.length
    · rw [decide_eq_true (show (i : Int) < (F.length : Nat) by omega)]
      obtain ⟨h, run, hFi⟩ : ∃ h run, F[i]? = some (h, run) := ⟨_, _, List.getElem?_eq_getElem hi⟩
      have hmem := List.mem_of_getElem? hFi
      have hhl : h < G.length := hB.lt _ hmem
      obtain ⟨dr, hdr⟩ : ∃ dr, ds[h]? = some dr := ⟨_, List.getElem?_eq_getElem (by rw [hT.len]; exact hhl)⟩
      have hT1 := TabAt.same s1 hT
      obtain ⟨es, ep, hes, hpe⟩ := hT.rows _ _ hdr
      have hnd : (es.map (·.1)).Nodup := by rw [paired_keysS hpe]; exact hG.nd h
      obtain ⟨m', rfl⟩ : ∃ m', m = m' + 1 := ⟨m - 1, by omega⟩
      rw [bfsGo_step hFi] at he
      refine ⟨fun σ H2 => ∃ x5, σ = [some (.ref t), some (.ref d), some (.ref wl), some (iV (i + 1)), some (iV h), x5] ∧ Same H H2 ∧ FndP K H2 (fun v => v ≠ .ref wl ∧ New H v) d (procR run F (row G h)) ∧ H2 wl = some (.lst ((procR run F (row G h)).map fun x => iV x.1)), ?_, ?_⟩
      · rintro σ' H' ⟨x5, rfl, s2, hF2, hw2⟩
        exact ⟨m', Nat.lt_succ_self m', i + 1, _, _, _, rfl, s2, hF2, hw2, hB.step hG hFi, Sh.row _ hsh (Nat.lt_of_le_of_lt (hsh _ _ hFi) hi), by omega, he⟩
      · refine ⟨_, rfl, _, rfl, wl, _, iN i, iV h, rfl, rfl, SqL.of hw, atI_nat (j := i) (by rw [List.getElem?_map, hFi]; rfl), ?_⟩
        refine ⟨_, rfl, _, _, rfl, rfl, ?_⟩
        have hixr : atI (ds.map V.ref) (iN h) = some (.ref dr) := atI_nat (j := h) (by rw [List.getElem?_map, hdr]; rfl)
        refine ⟨_, rfl, _, rfl, t, _, iN h, .ref dr, rfl, rfl, SqL.of hT1.lst, hixr, dr, es, ep, rfl, s1 _ _ hes, ?_⟩
        refine for_it walk_words (fun j σ H2 => ∃ x5, σ = [some (.ref t), some (.ref d), some (.ref wl), some (iV (i + 1)), some (iV h), x5] ∧ Same H H2 ∧ FndP K H2 (fun v => v ≠ .ref wl ∧ New H v) d (procR run F ((row G h).take j)) ∧ H2 wl = some (.lst ((procR run F ((row G h).take j)).map fun x => iV x.1))) ⟨_, rfl, s1, hF, hw⟩ (fun j σ H2 _ ⟨_, _, s2, _⟩ => s2 _ _ hes) ?_ ?_
        · rintro j v σ H2 H3 hj ⟨x5, rfl, s2, hF2, hw2⟩ ⟨rfl, en, hen, rfl⟩
          obtain ⟨mm, hmm, hk1, hk2, hk3⟩ := paired_get hpe hen
          have hmr := List.mem_of_getElem? hmm
          have hM : MInv G F (procR run F ((row G h).take j)) i h run := MInv.row hG (hB.runs _ hmem) (hB.rch _ hmem) _ _ (fun x hx => List.mem_of_mem_take hx) (hB.toM hFi)
          have hlt2 : (procR run F ((row G h).take j)).length ≤ G.length := by
            have := nodup_lt G.length _ hM.nd fun x hx => by
              obtain ⟨y, hy, e⟩ := List.mem_map.mp hx
              exact e ▸ hM.lt y hy
            simpa using this
          obtain ⟨E2, hE2⟩ := hM.pre
          have hstep : procR run F ((row G h).take (j + 1)) = addM run (procR run F ((row G h).take j)) mm := by
            rw [take_snoc hmm]
            exact List.foldl_append ..
          have hT2 := TabAt.same s2 hT
          have hFi2 : (procR run F ((row G h).take j))[i]? = some (h, run) := by rw [hE2, List.getElem?_append_left hi]; exact hFi
          rw [hstep]
          generalize procR run F ((row G h).take j) = F2 at hF2 hw2 hM hlt2 hFi2
          obtain ⟨kvs, hd2, hkvs'⟩ := hF2
          have hkvs := paired_map hkvs' fun _ _ q => q.1
          have hwd : ∀ {H'}, Same H H' → WdAt K H' en.2.1 en.1 := fun s' => WdAt.tle (Same.tle s') hk2
          have hWD : ∀ {H'}, Same H H' → WD K w H' dr es := fun s' => ⟨⟨ep, s' _ _ hes⟩, fun e he => WdAt.tle (Same.tle s') (paired_wordsS hpe e he)⟩
          have hkv : valV (kvOf es) en.1 = some (iV mm.2) := by rw [kv_at hnd hen, hk3]
          refine ⟨_, rfl, _, rfl, t, _, iN h, .ref dr, rfl, rfl, SqL.of hT2.lst, hixr, _, rfl, dr, es, en.1, iV mm.2, rfl, hwd s2, hWD s2, hkv, _, rfl, d, _, rfl, DGet.k (k := kN mm.2) hd2, _, rfl, ?_⟩
          rw [fnd_in hkvs]
          unfold addM
          by_cases hin : mm.2 ∈ F2.map (·.1)
          · rw [if_pos hin, decide_eq_true hin]
            exact ⟨_, rfl, s2, ⟨kvs, hd2, hkvs'⟩, hw2⟩
          · rw [if_neg hin, decide_eq_false hin]
            obtain ⟨p1, hp1, hpk⟩ := paired_at hkvs hFi2
            obtain ⟨hpk1, ra, rxs, hra, hrl, hrw⟩ := hpk
            have hvf : valV kvs (kN h) = some (.ref ra) := by
              rw [← hra]
              exact valV_at (i := i) (by rw [fnd_keys hkvs]; exact kI_nodup hM.nd) (by rw [hp1, ← hpk1])
            have hdg : DGet H3 d (kV (kN h)) (some (.ref ra)) := hvf ▸ DGet.k (k := kN h) hd2
            have hrun : run.length ≤ 60 := by
              have h1 : run.length ≤ i := hsh _ _ hFi
              omega
            have hrx : rxs.length = run.length := Paired.length hrw
            refine ⟨_, rfl, _, rfl, d, .ref ra, rfl, hdg, _, rfl, (by decide : 1 ≤ sizeLine), fun pb hpb => ?_⟩
            have s3 : Same H (L2.upd H3 pb (.lst [en.2.1])) := Same.then s2 hpb
            have k3 : Same H3 (L2.upd H3 pb (.lst [en.2.1])) := Same.new hpb
            refine ⟨ra, pb, rxs, [en.2.1], rfl, rfl, k3 _ _ hrl, upd_same, ?_, fun pn hpn => ?_⟩
            · rw [hrx]
              exact Nat.le_of_lt (small1000 (by rw [List.length_singleton]; omega))
            have s4 : Same H (L2.upd (L2.upd H3 pb (.lst [en.2.1])) pn (.lst (rxs ++ [en.2.1]))) := Same.then s3 hpn
            have k4 : Same H3 (L2.upd (L2.upd H3 pb (.lst [en.2.1])) pn (.lst (rxs ++ [en.2.1]))) := Same.then k3 hpn
            have hpn4 : (L2.upd (L2.upd H3 pb (.lst [en.2.1])) pn (.lst (rxs ++ [en.2.1]))) pn = some (.lst (rxs ++ [en.2.1])) := upd_same
            have hpn3 : H3 pn = none := Same.free k3 hpn
            generalize L2.upd (L2.upd H3 pb (.lst [en.2.1])) pn (.lst (rxs ++ [en.2.1])) = H4 at s4 k4 hpn4
            have hd4 := k4 _ _ hd2
            have hw4 := k4 _ _ hw2
            have hT4 := TabAt.same s4 hT
            refine ⟨_, rfl, _, rfl, _, rfl, t, _, iN h, .ref dr, rfl, rfl, SqL.of hT4.lst, hixr, _, rfl, dr, es, en.1, iV mm.2, rfl, hwd s4, hWD s4, hkv, d, _, rfl, DPut.k (k := kN mm.2) hd4 ?_, ?_⟩
            · rw [Paired.length hkvs]
              exact small1000 (by omega)
            have hnone : valV kvs (kN mm.2) = none := by
              have := fnd_in hkvs mm.2
              rw [decide_eq_false hin] at this
              cases e : valV kvs (kN mm.2) with
              | none => rfl
              | some v => rw [e] at this; cases this
            rw [putK_new _ hnone]
            have s5 : Same H (L2.upd H4 d (.dK (kvs ++ [(kN mm.2, .ref pn)]))) := Same.over s4 hd
            have t5 : Tle H3 (L2.upd H4 d (.dK (kvs ++ [(kN mm.2, .ref pn)]))) := Tle.trans (Same.tle k4) (Tle.but hd4 (fun _ z => nomatch z) (fun _ _ z => nomatch z) fun b u hb q => by rw [upd_ne hb]; exact q)
            have hw5 : (L2.upd H4 d (.dK (kvs ++ [(kN mm.2, .ref pn)]))) wl = some (.lst (F2.map fun x => iV x.1)) := by rw [upd_ne (ne_of hw4 hd4 (fun z => nomatch z))]; exact hw4
            have hd5 : (L2.upd H4 d (.dK (kvs ++ [(kN mm.2, .ref pn)]))) d = some (.dK (kvs ++ [(kN mm.2, .ref pn)])) := upd_same
            have hl5 : ∀ a xs, H4 a = some (.lst xs) → (L2.upd H4 d (.dK (kvs ++ [(kN mm.2, .ref pn)]))) a = some (.lst xs) := fun a xs q => by rw [upd_ne (ne_of q hd4 (fun z => nomatch z))]; exact q
            generalize L2.upd H4 d (.dK (kvs ++ [(kN mm.2, .ref pn)])) = H5 at s5 t5 hw5 hd5 hl5
            have hT5 := TabAt.same s5 hT
            refine ⟨_, rfl, .inl ⟨rfl, _, SqL.of hw5⟩, ?_⟩
            refine ⟨_, rfl, _, rfl, t, _, iN h, .ref dr, rfl, rfl, SqL.of hT5.lst, hixr, _, rfl, dr, es, en.1, iV mm.2, rfl, hwd s5, hWD s5, hkv, wl, _, iV mm.2, rfl, rfl, hw5, ?_, _, rfl, Same.over s5 hwlH, ?_, ?_⟩
            · rw [List.length_map]
              exact small1000 (by omega)
            · have t6 : Tle H5 (L2.upd H5 wl (.lst ((F2.map fun x => iV x.1) ++ [iV mm.2]))) := Tle.but hw5 (fun _ z => nomatch z) (fun _ _ z => nomatch z) fun b u hb q => by rw [upd_ne hb]; exact q
              have old : ∀ p x, (FndKv K H3 p x ∧ p.2 ≠ V.ref wl ∧ New H p.2) → FndKv K (L2.upd H5 wl (.lst ((F2.map fun x => iV x.1) ++ [iV mm.2]))) p x ∧ p.2 ≠ V.ref wl ∧ New H p.2 := fun p x ⟨⟨q1, q2⟩, q3⟩ => ⟨⟨q1, RunAt.but (Tle.trans t5 t6) (fun a xs e1 e2 => by rw [upd_ne (fun e => q3.1 (by rw [e1, e]))]; exact hl5 _ _ (k4 _ _ e2)) q2⟩, q3⟩
              have hpw : pn ≠ wl := fun e => by rw [e, hw2] at hpn3; cases hpn3
              refine ⟨_, by rw [upd_ne ndw]; exact hd5, paired_snoc (paired_map hkvs' old) ⟨⟨rfl, pn, _, rfl, by rw [upd_ne hpw]; exact hl5 _ _ hpn4, paired_snoc (paired_map hrw fun _ _ q => WdAt.tle (Tle.trans t5 t6) q) (hk1 ▸ WdAt.tle t6 (hwd s5))⟩, fun e => (by cases e; exact hpw rfl), pn, rfl, Same.free s2 hpn3⟩⟩
            · rw [upd_same, List.map_append]
              rfl
        · rintro σ H2 ⟨x5, rfl, s2, hF2, hw2⟩
          rw [Paired.length hpe, List.take_length] at hF2 hw2
          exact ⟨_, rfl, s2, hF2, hw2⟩
    · rw [decide_eq_false (show ¬ (i : Int) < (F.length : Nat) by omega)]
      have hnone : F[i]? = none := List.getElem?_eq_none (by omega)
      rw [bfsGo_end hnone] at he
      subst he
      exact ⟨_, rfl, q d H1 s1 hd (hF.imp fun _ q => q.2)⟩

end
end FF
namespace FF
open PySem PySem.Spec PyProof.Rows L2
/-! ### what may be compared deep -/
/-- a word that lays, not deep -/
def wordOk (k : NestedKey) : Bool := k.data.canLay0 && (decide (k.data.depth ≤ 8) && wordB k)
def GrLay (G : Gr) : Prop := ∀ h k u, (k, u) ∈ row G h → wordOk k = true
theorem walkG_in {G : Gr} : ∀ {run : List Wd} {s t : Nat}, walkG G s run = some t → ∀ k ∈ run, ∃ h u, (k, u) ∈ row G h
  | [], _, _, _, k, hk => nomatch hk
  | wd :: run, s, t, h, k, hk => by
    have h' : (match (row G s).find? fun m => decide (m.1 = wd) with | some m => walkG G m.2 run | none => none) = some t := h
    cases e : (row G s).find? fun m => decide (m.1 = wd) with
    | none => rw [e] at h'; cases h'
    | some m =>
      rw [e] at h'
      have hm := List.mem_of_find?_eq_some e
      have hw : m.1 = wd := of_decide_eq_true (List.find?_some (p := fun m : Wd × Nat => decide (m.1 = wd)) e)
      rcases List.mem_cons.mp hk with rfl | hk
      · exact ⟨s, m.2, by rw [← hw]; exact hm⟩
      · exact walkG_in h' k hk
def runD (ws : List Wd) : PyData := .list (ws.map (·.data))
theorem canAll {ds : List PyData} (h : ∀ d ∈ ds, d.canLay0 = true) : PyData.canLayAll0 ds = true := by
  induction ds with
  | nil => simp [PyData.canLayAll0]
  | cons d ds ih =>
    simp only [PyData.canLayAll0, Bool.and_eq_true]
    exact ⟨h d List.mem_cons_self, ih fun x hx => h x (List.mem_cons_of_mem _ hx)⟩
theorem depthAll_le {ds : List PyData} {n : Nat} (h : ∀ d ∈ ds, d.depth ≤ n) : PyData.depthAll ds ≤ n := by
  induction ds with
  | nil => simp [PyData.depthAll]
  | cons d ds ih =>
    simp only [PyData.depthAll]
    exact Nat.max_le.mpr ⟨h d List.mem_cons_self, ih fun x hx => h x (List.mem_cons_of_mem _ hx)⟩
theorem shaped_list {ds : List PyData} {n : Nat} (hn : n < 64) (h : ∀ d ∈ ds, d.canLay0 = true ∧ d.depth ≤ n) : SeqAt.shaped (.list ds) = true := by
  show (PyData.canLay0 (.list ds) && decide (PyData.depth (.list ds) ≤ 64)) = true
  rw [Bool.and_eq_true]
  refine ⟨by simp only [PyData.canLay0]; exact canAll fun d hd => (h d hd).1, decide_eq_true ?_⟩
  have := depthAll_le fun d hd => (h d hd).2
  simp only [PyData.depth]
  omega
theorem wordOk_iff {k : NestedKey} : wordOk k = true ↔ k.data.canLay0 = true ∧ k.data.depth ≤ 8 ∧ wordB k = true := by
  unfold wordOk
  simp only [Bool.and_eq_true, decide_eq_true_eq]
theorem run_lay {ws : List Wd} (h : ∀ k ∈ ws, wordOk k = true) : (runD ws).canLay0 = true ∧ (runD ws).depth ≤ 9 := by
  have h1 : ∀ d ∈ ws.map (·.data), d.canLay0 = true ∧ d.depth ≤ 8 := fun d hd => by
    obtain ⟨k, hk, rfl⟩ := List.mem_map.mp hd
    have := wordOk_iff.mp (h k hk)
    exact ⟨this.1, this.2.1⟩
  refine ⟨by simp only [runD, PyData.canLay0]; exact canAll fun d hd => (h1 d hd).1, ?_⟩
  have := depthAll_le fun d hd => (h1 d hd).2
  simp only [runD, PyData.depth]
  omega
theorem eqvAll_nil (ds : List PyData) : PyData.eqvAll ds [] = ds.isEmpty := by
  cases ds with
  | nil => simp [PyData.eqvAll]
  | cons d ds => simp [PyData.eqvAll]
theorem shaped_nil : SeqAt.shaped (.list []) = true := shaped_list (n := 0) (by decide) fun _ h => nomatch h
section
variable {w : World} {K : PySem.W.Frag} {mg : Str → Option Value} {base : Heap}
theorem words_dp {H : Hp} {xs : List V} {ws : List Wd} (h : Paired (WdAt K H) xs ws) : DpAll K H xs (ws.map (·.data)) := by
  induction h with
  | nil => exact .nil
  | cons p _ ih => exact .cons p.1 ih
theorem RunAt.dp {H : Hp} {v : V} {ws : List Wd} (h : RunAt K H v ws) : Dp K H v (runD ws) := by
  obtain ⟨a, xs, rfl, h1, h2⟩ := h
  exact .lst (SqL.of h1) (words_dp h2)
theorem runs_dp {H : Hp} {xs : List V} {wss : List (List Wd)} (h : Paired (RunAt K H) xs wss) : DpAll K H xs (wss.map runD) := by
  induction h with
  | nil => exact .nil
  | cons p _ ih => exact .cons (RunAt.dp p) ih
theorem brk_lay {G : Gr} (ok : GrOk G) (gl : GrLay G) {bad : List Nat} : ∀ ws ∈ brk G bad, ∀ k ∈ ws, wordOk k = true := fun ws hw k hk => by
  obtain ⟨s, _, e⟩ := brk_run ok hw
  obtain ⟨h, u, hm⟩ := walkG_in e k hk
  exact gl h k u hm
theorem shaped_runs {wss : List (List Wd)} (h : ∀ ws ∈ wss, ∀ k ∈ ws, wordOk k = true) : SeqAt.shaped (.list (wss.map runD)) = true :=
  shaped_list (n := 9) (by decide) fun d hd => let ⟨ws, hw, e⟩ := List.mem_map.mp hd; e ▸ run_lay (h ws hw)
/-- a play that the law makes -/
structure PlayOk (many : Nat) (sts : List StepD) (bad : List Nat) : Prop where
  ok : StepsOk many sts
  bars : ∀ st ∈ sts, st.bars.length ≤ 60
  words : ∀ st ∈ sts, wordOk st.k = true
  pos : 1 ≤ many
  few : many ≤ 60
  blt : ∀ n ∈ bad, n < many
  bnd : bad.Nodup
  bfew : bad.length ≤ 60
theorem PlayOk.lay {many : Nat} {sts : List StepD} {bad : List Nat} {R : List Str} (h : PlayOk many sts bad) : GrLay (grOf many sts R) := fun s k u hm => by
  rcases Nat.lt_or_ge s many with lt | ge
  · rw [grOf_row lt] at hm
    obtain ⟨st, hst, e⟩ := List.mem_map.mp hm
    cases e
    exact h.words st (List.mem_filter.mp (List.mem_filter.mp hst).1).1
  · rw [row_out (by rw [grOf_len]; exact ge)] at hm
    cases hm
/-- what break_run answers: H the heap before -/
def BrkAt (K : PySem.W.Frag) (H H' : Hp) (v : V) : List (List Wd) → Prop
  | [] => v = .non
  | run :: _ => RunAt K H' v run ∧ New H v
/-- all that the keeping defs ask -/
structure AskAt (K : PySem.W.Frag) (w : World) (H : Hp) (a : Addr) (v : V) (many : Nat) (sts : List StepD) (bad : List Nat) (r : Sum (List Str) Nat) : Prop where
  play : PlayAt K w H a many sts bad
  ok : PlayOk many sts bad
  rules : RulesIn K H v r
theorem AskAt.same {H H' : Hp} {a : Addr} {v : V} {many : Nat} {sts : List StepD} {bad : List Nat} {r : Sum (List Str) Nat} (s : Same H H') (h : AskAt K w H a v many sts bad r) : AskAt K w H' a v many sts bad r := ⟨PlayAt.same s h.play, h.ok, RulesIn.leq (Same.leq s) h.rules⟩
/-- what follows with the rules R, or the raise -/
theorem RulesEnd.imp {H H' : Hp} {r : Sum (List Str) Nat} {E : XK} {go go' : List Str → Prop} (s : Same H H') (f : ∀ R, go R → go' R) (h : RulesEnd K H r E go) : RulesEnd K H' r E go' := by
  cases r with
  | inl R => exact f R h
  | inr i => exact RaisesAt.same h s
/-- the values at bad keys -/
def selO (bad : List Nat) (kvs : List (Key × V)) (F : Fnd) : List (Option V) := List.zipWith (fun p x => if x.1 ∈ bad then some p.2 else none) kvs F
theorem selO_at {bad : List Nat} : ∀ {kvs : List (Key × V)} {F : Fnd} {i : Nat} {o : Option V} {p : Key × V} {x : Nat × List Wd}, (selO bad kvs F)[i]? = some o → kvs[i]? = some p → F[i]? = some x → o = if x.1 ∈ bad then some p.2 else none := fun {kvs F i o p x} h hp hx => by
  unfold selO at h
  rw [List.getElem?_zipWith, hp, hx] at h
  exact (Option.some.inj h).symm
theorem selO_paired {H : Hp} {P : V → Prop} {bad : List Nat} {kvs : List (Key × V)} {F : Fnd} (h : Paired (fun p x => FndKv K H p x ∧ P p.2) kvs F) : Paired (fun v ws => RunAt K H v ws ∧ P v) ((selO bad kvs F).filterMap id) ((F.filter fun x => decide (x.1 ∈ bad)).map (·.2)) := by
  induction h with
  | nil => exact .nil
  | @cons p x l m q _ ih =>
    have e : selO bad (p :: l) (x :: m) = (if x.1 ∈ bad then some p.2 else none) :: selO bad l m := rfl
    rw [e]
    by_cases hx : x.1 ∈ bad
    · rw [if_pos hx, List.filter_cons, if_pos (decide_eq_true hx)]
      exact .cons ⟨q.1.2, q.2⟩ ih
    · rw [if_neg hx, List.filter_cons, if_neg (by simpa using hx)]
      exact ih
def sp_break_run (K : PySem.W.Frag) (w : World) : Sp := fun vs H Q E => ∃ (a : Addr) (v : V) (many : Nat) (sts : List StepD) (bad : List Nat) (r : Sum (List Str) Nat), vs = [.ref a, v] ∧ AskAt K w H a v many sts bad r ∧ RulesEnd K H r E fun R => ∀ v' H', Same H H' → BrkAt K H H' v' (brk (grOf many sts R) bad) → Q v' H'
theorem inV_nat {n : Nat} {ms : List Nat} : inV (iV n) (ms.map iV) = decide (n ∈ ms) := by
  unfold inV
  rw [List.any_map]
  by_cases h : n ∈ ms
  · rw [decide_eq_true h, List.any_eq_true]
    exact ⟨n, h, by simp [eqV]⟩
  · rw [decide_eq_false h, List.any_eq_false]
    intro x hx e
    have : (x : Int) = n := by simpa [eqV] using e
    exact h (by have e2 : x = n := by omega
                exact e2 ▸ hx)
theorem flat_nats (ms : List Nat) : (ms.map iV).all flatV = true := by rw [List.all_map, List.all_eq_true]; intro _ _; rfl

theorem sc_break_run : FnScope ["play", "rules", "found", "runs", "stand"] ["play", "rules"] (defScope s_break_run) := ⟨rfl, rfl, rfl, by decide +kernel, rfl, by decide +kernel, by decide +kernel⟩
theorem ok_break_run (T : Tx K mg) (Pl : PlTx K mg) (D : Df K mg "break_run" s_break_run) (c_checked_rules : Cal w K mg base (L2.CX Pg w) 4 "checked_rules" ["rules"] (sp_checked_rules K w)) (c_steps_under : Cal w K mg base CX0 2 "steps_under" ["play", "rules"] (sp_steps_under K w)) (c_shortest_runs : Cal w K mg base CX0 1 "shortest_runs" ["table"] (sp_shortest_runs K w)) : Cal w K mg base (L2.CX Pg w) 5 "break_run" ["play", "rules"] (sp_break_run K w) := by
  have nd := sc_break_run.nd
  refine D.ok (N := ["play", "rules", "found", "runs", "stand"]) sc_break_run (fun vs H Q E h => ?_) (fun _ _ _ _ _ _ us hl => match us, hl with | [_, _], _ => rfl) (fun cdv A outer s H vs Q E hr h => ?_)
  · obtain ⟨a, v, many, sts, bad, r, rfl, hA, hend⟩ := h
    rfl
  · have hu := hu_of hr
    obtain ⟨a, v, many, sts, bad, r, rfl, hA, hend⟩ := h
    refine ⟨_, (pss_cons (ps_set (i := 2) nd rfl (by first | exact Or.inl rfl | exact Or.inr rfl) (pe_cal rfl c_shortest_runs (hr.mono (by first | decide | (simp only [Nat.add_eq]; omega))) pass0 (pa_cons (pe_cal rfl c_steps_under (hr.mono (by first | decide | (simp only [Nat.add_eq]; omega))) pass0 (pa_cons (pv 0) (pa_cons (pe_cal rfl c_checked_rules (hr.mono (by first | decide | (simp only [Nat.add_eq]; omega))) (by exact (passes_call (takes_of rfl rfl rfl rfl) (fun _ _ _ _ h => h))) (pa_cons (pv 1) pa_nil)) pa_nil))) pa_nil)))
      (pss_cons (ps_lock (ps_setLc (i := 3) (own := [("stand", 4)]) (by rfl) nd rfl rfl (sw_true rfl rfl rfl (by decide +kernel)) (pi_keys (pv 2)) (blkOk_by (own := [("stand", 4)]) (N := ["play", "rules", "found", "runs", "stand"]) (sc := defScope s_break_run) (by decide +kernel)) (fun _ _ _ _ _ => (pg_name (i := 4) nd rfl (by first | exact Or.inl rfl | exact Or.inr rfl))) (fun _ _ _ _ _ => (pts_one (pt_cmpR (show OpR _ _ (rIn K false) from op_in_seq) (pv 4) (show PE _ _ (tFld K _ _) from pe_fld (pv 0) rfl) (by with_unfolding_all rfl)))) (fun _ _ _ _ _ => (pe_dget hu (pv 2) (pv 4) (fun _ _ => rfl)))))
      (pss_one (ps_ret (pe_ifExp (pt_cmpR (op_neD hr.units) (pv 3) (pe_lst pa_nil) (nomark _)) (pe_ix ix_list (pv 3) pe_int (fun _ _ => rfl)) pe_non))))), ?_⟩
    refine ⟨_, rfl, _, rfl, v, r, rfl, hA.rules, ?_⟩
    cases r with
    | inr i => exact hend
    | inl R =>
      have hend : ∀ v' H', Same H H' → BrkAt K H H' v' (brk (grOf many sts R) bad) → Q v' H' := hend
      intro d H1 s1 hd hR1
      have hPl := PlayAt.same s1 hA.play
      refine ⟨a, d, many, sts, bad, R, rfl, hPl, hR1, hA.ok.ok, hA.ok.bars, hA.ok.few, fun t H2 ds s2 ht hT => ?_⟩
      have hG : GrOk (grOf many sts R) := grOf_ok hA.ok.ok hA.ok.pos
      refine ⟨t, _, ds, rfl, hT, hG, by rw [grOf_len]; exact hA.ok.few, grOf_few hA.ok.ok, fun f H3 s3 hf hF => ?_⟩
      have s13 := Same.trans s1 (Same.trans s2 s3)
      have hgl := hA.ok.lay (R := R)
      have hB := bfs_inv hG
      generalize hGr : grOf many sts R = G at hend hT hG hF hgl hB
      obtain ⟨kvs, hkv, hp⟩ := hF
      have hpk := paired_map hp fun _ _ q => q.1
      have hlen : kvs.length = (bfs G).length := Paired.length hp
      have hGl : G.length = many := by rw [← hGr, grOf_len]
      have hfew : (bfs G).length ≤ 60 := by
        have := hB.len
        have := hA.ok.few
        omega
      obtain ⟨dx, tp, b, dsP, ms, q1, q2, q3, q4⟩ := hA.play
      refine ⟨f, _, hkv, trivial, fun od => ⟨_, rfl, f, od, rfl, .inl ⟨kvs, upd_same, fun D hD => ?_⟩⟩⟩
      have few1000 : kvs.length ≤ sizeLine := Nat.le_of_lt (small1000 (by omega))
      refine lc_fm walk_keys (selO bad kvs (bfs G)) (by unfold selO; rw [List.length_zipWith, hlen, Nat.min_self]) few1000 hD (fun H4 s4 => s4 _ _ upd_same) (fun i o x H4 H5 ho s4 ⟨e, k, z, hkz, ex⟩ R' hR => ?_) fun H4 s4 hD4 => ?_
      · subst e ex
        obtain ⟨x, hx, hkx, hzx⟩ := paired_get hpk hkz
        have hkx : k = kN x.1 := hkx
        subst hkx
        have lk : Leq H3 (L2.upd H3 f (.frz od (.dK kvs))) := Leq.lock hkv fun _ _ z => nomatch z
        have hf0 : H f = none := Same.free (Same.trans s1 s2) hf
        have s05 : Same H H5 := fun b' u hb => s4 _ _ (by rw [upd_ne (ne_of_none hb hf0)]; exact s13 _ _ hb)
        rw [selO_at ho hkz hx] at hR
        refine ⟨rfl, _, rfl, _, rfl, a, plC K, dx, _, .ref b, rfl, s05 _ _ q1, Pl.cl, Pl.n2, rfl, b, ms.map iV, rfl, .inl (SqL.of (s05 _ _ q3)), rfl, flat_nats ms, _, rfl, ?_⟩
        rw [show (if false = true then !inV (kV (kN x.1)) (ms.map iV) else inV (kV (kN x.1)) (ms.map iV)) = decide (x.1 ∈ bad) from inV_nat.trans (decide_eq_decide.mpr q4.mem_iff)]
        by_cases hxb : x.1 ∈ bad
        · rw [decide_eq_true hxb]
          rw [if_pos hxb] at hR
          have hvz : valV kvs (kN x.1) = some z := valV_at (by rw [fnd_keys hpk]; exact kI_nodup hB.nd) hkz
          exact ⟨_, rfl, _, rfl, f, z, rfl, .inl ⟨kvs, _, .inr ⟨od, s4 _ _ upd_same⟩, rfl, hvz.symm⟩, hR _ (Same.refl _)⟩
        · rw [decide_eq_false hxb]
          rw [if_neg hxb] at hR
          exact hR _ (Same.refl _)
      · have hf4 := s4 _ _ (upd_same (H := H3) (a := f) (o := .frz od (.dK kvs)))
        have neD : D ≠ f := fun e => by
          rw [e, upd_same] at hD
          cases hD
        have s34 : Same H3 (L2.upd H4 f (.dK kvs)) := Same.unlock hkv s4
        have hD5 : (L2.upd H4 f (.dK kvs)) D = some (.lst ((selO bad kvs (bfs G)).filterMap id)) := by rw [upd_ne neD]; exact hD4
        refine ⟨hf4, ?_⟩
        generalize L2.upd H4 f (.dK kvs) = H5 at s34 hD5
        have s05 := Same.trans s13 s34
        have hruns : Paired (fun v ws => RunAt K H5 v ws ∧ New H v) ((selO bad kvs (bfs G)).filterMap id) (brk G bad) := paired_map (selO_paired hp) fun _ _ q => ⟨RunAt.same s34 q.1, let ⟨x, e, hx⟩ := q.2; ⟨x, e, Same.free s1 (Same.free s2 hx)⟩⟩
        generalize (selO bad kvs (bfs G)).filterMap id = rv at hD5 hruns
        have hshape := shaped_runs (brk_lay hG hgl (bad := bad))
        refine ⟨_, rfl, (by decide : 0 ≤ sizeLine), fun pe hpe => ?_⟩
        have s56 : Same H5 (L2.upd H5 pe (.lst [])) := Same.new hpe
        have hpe6 : (L2.upd H5 pe (.lst [])) pe = some (.lst []) := upd_same
        generalize L2.upd H5 pe (.lst []) = H6 at s56 hpe6
        refine ⟨.list ((brk G bad).map runD), .list [], .lst (SqL.of (s56 _ _ hD5)) (runs_dp (paired_map hruns fun _ _ q => RunAt.same s56 q.1)), .lst (SqL.of hpe6) .nil, hshape, shaped_nil, _, rfl, ?_⟩
        have e1 : PyData.eqv (.list ((brk G bad).map runD)) (.list []) = (brk G bad).isEmpty := by
          simp only [PyData.eqv]
          rw [eqvAll_nil]
          cases brk G bad <;> rfl
        rw [e1]
        have s06 := Same.trans s05 s56
        generalize brk G bad = bl at hend hruns hshape
        cases hruns with
        | nil => exact hend .non _ s06 rfl
        | @cons v0 ws l m h0 hrest => exact ⟨_, rfl, D, _, 0, v0, rfl, rfl, SqL.of (s56 _ _ hD5), atI_nat (j := 0) rfl, hend v0 H6 s06 ⟨RunAt.same s56 h0.1, h0.2⟩⟩

end
end FF
/-! a plain name set to a dict comprehension on one line -/
namespace FF
open PySem PySem.Spec PyProof.Rows L2
theorem ps_setDc {X : Cx} {i : Nat} {y : Str} {py : Pos} {kx vx tg iter : Expr} {ifs : List Expr} {scope : Scope} {own : List (Str × Nat)} {pos spos : Pos} {wi : TI} {g : TG} {tt : TT} {tk tv : TE} (hc : X.calm = true) (hN : X.N.Nodup) (hy : X.N[i]? = some y) (hyl : X.env.scope.names.lookup y = some .local)
    (hsw : swapsWith (.DictComp kx vx [⟨tg, iter, ifs, 0⟩] scope pos) (some (.Name y py)) spos.line X.env = pure true) (hi : PI X tg iter wi) (ok : BlkOk X.N X.env.scope scope own)
    (hg : ∀ s H C cl fp, PG (X.blk s H scope (compEnvC scope cl C X.env) fp) tg g) (ht : ∀ s H C cl fp, PTs (X.blk s H scope (compEnvC scope cl C X.env) fp) ifs tt)
    (hk : ∀ s H C cl fp, PE (X.blk s H scope (compEnvC scope cl C X.env) fp) kx tk) (he : ∀ s H C cl fp, PE (X.blk s H scope (compEnvC scope cl C X.env) fp) vx tv) (hs : ∀ x, foldedSetIterable iter X.env x = pure x := by intro _; rfl) :
    PS X (.Assign [.Name y py] (.DictComp kx vx [⟨tg, iter, ifs, 0⟩] scope pos) spos) (tAsg (tDc wi g tt tk tv (own.map (·.2))) (gName i)) := by
  refine ⟨fun pins s σ H D I h => ?_⟩
  rw [exec_Assign_Name_used _ _ _ _ hsw]
  refine wpAny_bind (wpAny_standAt (wpAny_bind ?_))
  show wpAny _ X.A (do let _ ← comprehension (.DictComp kx vx [⟨tg, iter, ifs, 0⟩] scope pos) scope X.env (firstIterPos [⟨tg, iter, ifs, 0⟩] pos) newDict false (eval iter X.env) (some (assign (.Name y py) X.env))) _ _ s
  have h : tDc wi g tt tk tv (own.map (·.2)) σ H (fun x H1 => gName i x σ H1 D.nx) := h
  refine wpAny_bind (thn (dc_core (Qf := fun _ s' => SP X pins D .next s') hc hN I hi ok hg ht hk he hs h fun L C s' m H' I' q hn f => ?_) fun _ s' hq => wpAny_pure (wpAny_pure hq))
  show wpAny _ _ (assign (.Name y py) X.env (.ref L)) _ _ _
  refine wpAny_assign_Name (store_ok2 (v := V.ref L) I' hN hy (.inl hyl) rfl (fun s2 I2 ⟨a, sb, ha⟩ => ?_) (.inr hyl))
  obtain ⟨f0, f1, f2, f3, f4, f5⟩ := f
  have haC : C ≠ a := by
    rcases ha with z | z
    · rw [z]
      exact f1
    · exact fun e => f4 y a z e.symm
  exact ⟨m, hn.sameBut sb haC, fun h3 sb3 => ⟨_, H', I2.turned (t' := s2.toks) (fun b o hb e => (sb3.2 b hb).trans e) f0 f1 f3 f4 f5, q⟩⟩
theorem sw_trueD {kx vx : Expr} {gs : List Comprehension} {scope : Scope} {pos py : Pos} {y : Str} {l : Nat} {env : Env} (hk : env.scope.kind = .function) (hy : env.scope.names.lookup y = some .local) (hl : (py.line == pos.line) = true)
    (ha : (scope.names.any fun (n, k) => n == y && (k == .local || k == .cell)) = false) : swapsWith (.DictComp kx vx gs scope pos) (some (.Name y py)) l env = pure true := by
  have ky : env.kindOf y = some .local := hy
  have hb : env.blockKind = .function := by
    unfold Env.blockKind
    rw [hk]
    rfl
  unfold swapsWith
  simp only [hb, ky, ha, Expr.pos, hl]
  rfl
end FF
namespace FF
open PySem PySem.Spec PyProof.Rows L2
/-! ### going back from bad stands -/
structure LInv (G : Gr) (A : Nat → List Nat) (bad L W : List Nat) (x : Nat) (rest : List Nat) : Prop where
  nd : L.Nodup
  lt : ∀ s ∈ L, s < G.length
  wnd : W.Nodup
  sub : ∀ s ∈ W, s ∈ L
  blt : ∀ b ∈ bad, b ∈ L
  rch : ∀ s ∈ L, ∃ b ∈ bad, Rch G s b
  done : ∀ s ∈ L, s ∉ W → ∀ h ∈ A s, h ∈ L ∨ (s = x ∧ h ∈ rest)
variable {G : Gr} {A : Nat → List Nat} {bad L W : List Nat} {x h : Nat} {rest : List Nat}
theorem LInv.start {ms : List Nat} (hp : ms.Perm bad) (hnd : bad.Nodup) (hlt : ∀ b ∈ bad, b < G.length) : LInv G A bad ms ms 0 [] where
  nd := hp.nodup_iff.mpr hnd
  lt := fun s hs => hlt s (hp.mem_iff.mp hs)
  wnd := hp.nodup_iff.mpr hnd
  sub := fun _ h => h
  blt := fun b hb => hp.mem_iff.mpr hb
  rch := fun s hs => ⟨s, hp.mem_iff.mp hs, .refl s⟩
  done := fun s hs hn => absurd hs hn
theorem LInv.pop (i : LInv G A bad L (W ++ [x]) h []) : LInv G A bad L W x (A x) where
  nd := i.nd
  lt := i.lt
  wnd := (List.nodup_append.mp i.wnd).1
  sub := fun s hs => i.sub s (List.mem_append_left _ hs)
  blt := i.blt
  rch := i.rch
  done := fun s hs hn y hy => by
    by_cases e : s = x
    · exact .inr ⟨e, e ▸ hy⟩
    · rcases i.done s hs (fun hm => (List.mem_append.mp hm).elim hn fun q => e (List.mem_singleton.mp q)) y hy with q | ⟨_, q⟩
      · exact .inl q
      · cases q
theorem LInv.old (i : LInv G A bad L W x (h :: rest)) (hh : h ∈ L) : LInv G A bad L W x rest :=
  ⟨i.nd, i.lt, i.wnd, i.sub, i.blt, i.rch, fun s hs hn y hy => by
      rcases i.done s hs hn y hy with q | ⟨e, q⟩
      · exact .inl q
      · rcases List.mem_cons.mp q with rfl | q
        · exact .inl hh
        · exact .inr ⟨e, q⟩⟩
theorem LInv.new (i : LInv G A bad L W x (h :: rest)) (hh : h ∉ L) (hx : x ∈ L) (hlt : h < G.length) (hr : ∃ w, (w, x) ∈ row G h) : LInv G A bad (L ++ [h]) (W ++ [h]) x rest where
  nd := by
    rw [List.nodup_append]
    refine ⟨i.nd, by simp, fun a ha b hb e => ?_⟩
    rw [List.mem_singleton.mp hb] at e
    exact hh (e ▸ ha)
  lt := fun s hs => (List.mem_append.mp hs).elim (i.lt s) fun q => by rw [List.mem_singleton.mp q]; exact hlt
  wnd := by
    rw [List.nodup_append]
    refine ⟨i.wnd, by simp, fun a ha b hb e => ?_⟩
    rw [List.mem_singleton.mp hb] at e
    exact hh (e ▸ i.sub a ha)
  sub := fun s hs => (List.mem_append.mp hs).elim (fun q => List.mem_append_left _ (i.sub s q)) fun q => List.mem_append_right _ q
  blt := fun b hb => List.mem_append_left _ (i.blt b hb)
  rch := fun s hs => (List.mem_append.mp hs).elim (i.rch s) fun q => by
    rw [List.mem_singleton.mp q]
    obtain ⟨b, hb, r⟩ := i.rch x hx
    obtain ⟨wd, hw⟩ := hr
    exact ⟨b, hb, Rch.head hw r⟩
  done := fun s hs hn y hy => by
    rcases List.mem_append.mp hs with hs | hs
    · rcases i.done s hs (fun q => hn (List.mem_append_left _ q)) y hy with q | ⟨e, q⟩
      · exact .inl (List.mem_append_left _ q)
      · rcases List.mem_cons.mp q with rfl | q
        · exact .inl (List.mem_append_right _ List.mem_cons_self)
        · exact .inr ⟨e, q⟩
    · exact absurd (List.mem_append_right _ hs) hn
theorem LInv.end (i : LInv G A bad L [] x []) (hA : ∀ s h, h ∈ A s ↔ ∃ w, (w, s) ∈ row G h) {s : Nat} : s ∈ L ↔ ∃ b ∈ bad, Rch G s b := by
  constructor
  · exact i.rch s
  · rintro ⟨b, hb, r⟩
    refine back_all (B := fun s => s ∈ L) (fun t wd u hm hu => ?_) r (i.blt b hb)
    rcases i.done u hu (fun q => nomatch q) t ((hA u t).mpr ⟨wd, hm⟩) with q | ⟨_, q⟩
    · exact q
    · cases q
theorem LInv.len (i : LInv G A bad L W x rest) : L.length ≤ G.length ∧ W.length ≤ G.length :=
  ⟨nodup_lt _ _ i.nd i.lt, nodup_lt _ _ i.wnd fun s hs => i.lt s (i.sub s hs)⟩
theorem safe_of {L : List Nat} (h : ∀ s, s ∈ L ↔ ∃ b ∈ bad, Rch G s b) : (List.range G.length).filter (fun s => !decide (s ∈ L)) = safe G bad := by
  unfold safe
  refine List.filter_congr fun s _ => ?_
  by_cases hs : s ∈ L
  · have h2 : ¬ ∀ b ∈ bad, ¬ Rch G s b := fun q => let ⟨b, hb, r⟩ := (h s).mp hs; q b hb r
    rw [decide_eq_true hs, @decide_eq_false _ (Classical.propDecidable _) h2]
    rfl
  · have h2 : ∀ b ∈ bad, ¬ Rch G s b := fun b hb r => hs ((h s).mpr ⟨b, hb, r⟩)
    rw [decide_eq_false hs, @decide_eq_true _ (Classical.propDecidable _) h2]
    rfl
section
variable {w : World} {K : PySem.W.Frag} {mg : Str → Option Value} {base : Heap}

def sp_keeps (K : PySem.W.Frag) (w : World) : Sp := fun vs H Q E => ∃ (a : Addr) (v : V) (many : Nat) (sts : List StepD) (bad : List Nat) (r : Sum (List Str) Nat), vs = [.ref a, v] ∧ AskAt K w H a v many sts bad r ∧ RulesEnd K H r E fun R => ∀ H', Same H H' → Q (.bl (brk (grOf many sts R) bad).isEmpty) H'

theorem sc_keeps : FnScope ["play", "rules"] ["play", "rules"] (defScope s_keeps) := ⟨rfl, rfl, rfl, by decide +kernel, rfl, by decide +kernel, by decide +kernel⟩
theorem ok_keeps (T : Tx K mg)  (D : Df K mg "keeps" s_keeps) (c_break_run : Cal w K mg base (L2.CX Pg w) 5 "break_run" ["play", "rules"] (sp_break_run K w)) : Cal w K mg base (L2.CX Pg w) 6 "keeps" ["play", "rules"] (sp_keeps K w) := by
  have nd := sc_keeps.nd
  refine D.ok (N := ["play", "rules"]) sc_keeps (fun vs H Q E h => ?_) (fun _ _ _ _ _ _ us hl => match us, hl with | [_, _], _ => rfl) (fun cdv A outer s H vs Q E hr h => ?_)
  · obtain ⟨a, v, many, sts, bad, r, rfl, hA, hend⟩ := h
    rfl
  · have hu := hu_of hr
    obtain ⟨a, v, many, sts, bad, r, rfl, hA, hend⟩ := h
    refine ⟨_, (pss_one (ps_ret (pe_cmp (pc_isN (pe_cal rfl c_break_run (hr.mono (by first | decide | (simp only [Nat.add_eq]; omega))) (by exact (passes_call (takes_of rfl rfl rfl rfl) (fun _ _ _ _ h => h))) (pa_cons (pv 0) (pa_cons (pv 1) pa_nil)))) rfl))), ?_⟩
    refine ⟨_, rfl, _, rfl, a, v, many, sts, bad, r, rfl, hA, ?_⟩
    cases r with
    | inr i => exact hend
    | inl R =>
      have hend : ∀ H', Same H H' → Q (.bl (brk (grOf many sts R) bad).isEmpty) H' := hend
      intro v' H1 s1 hv
      have q := hend H1 s1
      generalize brk (grOf many sts R) bad = bl at hv q
      cases bl with
      | nil =>
        have hv : v' = .non := hv
        subst hv
        exact q
      | cons r0 rest =>
        obtain ⟨_, x, rfl, _⟩ := hv
        exact q

/-- the dict of who leads where -/
structure AhAt (H : Hp) (d : Addr) (n : Nat) (la : List Addr) (A : Nat → List Nat) : Prop where
  dict : H d = some (.dK ((kI (List.range n)).zip (la.map V.ref)))
  len : la.length = n
  nd : la.Nodup
  at_ : ∀ s l, la[s]? = some l → H l = some (.lst ((A s).map iV))
theorem zip_range {n : Nat} {la : List Addr} (hl : la.length = n) {s : Nat} {l : Addr} (h : la[s]? = some l) : valV ((kI (List.range n)).zip (la.map V.ref)) (kN s) = some (.ref l) := by
  have hs : s < n := by rw [← hl]; exact (List.getElem?_eq_some_iff.mp h).1
  have e1 : (kI (List.range n))[s]? = some (kN s) := by rw [List.getElem?_map, List.getElem?_range hs]; rfl
  have e2 : (la.map V.ref)[s]? = some (.ref l) := by rw [List.getElem?_map, h]; rfl
  refine valV_at (i := s) ?_ (List.getElem?_zip_eq_some.mpr ⟨e1, e2⟩)
  rw [List.map_fst_zip (by simp [hl])]
  exact kI_nodup List.nodup_range
def addA (A : Nat → List Nat) (s i : Nat) : Nat → List Nat := fun u => if u = s then A u ++ [i] else A u
theorem AhAt.add {H : Hp} {d : Addr} {n : Nat} {la : List Addr} {A : Nat → List Nat} (h : AhAt H d n la A) {s : Nat} {l : Addr} (hs : la[s]? = some l) (i : Nat) : AhAt (L2.upd H l (.lst ((A s).map iV ++ [iV i]))) d n la (addA A s i) := by
  have hl := h.at_ s l hs
  refine ⟨by rw [upd_ne (ne_of h.dict hl (fun z => nomatch z))]; exact h.dict, h.len, h.nd, fun u lu hu => ?_⟩
  unfold addA
  by_cases e : u = s
  · subst e
    rw [hs] at hu
    cases hu
    rw [if_pos rfl, upd_same, List.map_append]
    rfl
  · rw [if_neg e]
    have ne : lu ≠ l := fun q => by
      subst q
      exact e ((List.getElem?_inj (List.getElem?_eq_some_iff.mp hu).1 h.nd).mp (hu.trans hs.symm))
    rw [upd_ne ne]
    exact h.at_ u lu hu
theorem AhAt.same {H H' : Hp} {d : Addr} {n : Nat} {la : List Addr} {A : Nat → List Nat} (e : Same H H') (h : AhAt H d n la A) : AhAt H' d n la A := ⟨e _ _ h.dict, h.len, h.nd, fun s l q => e _ _ (h.at_ s l q)⟩
/-- a dict whose keys alone are told -/
def SetAt (H : Hp) (d : Addr) (L : List Nat) : Prop := H d = some (.dK ((kI L).map fun k => (k, .bl true)))
theorem set_in {L : List Nat} {n : Nat} : (valV ((kI L).map fun k => (k, V.bl true)) (kN n)).isSome = decide (n ∈ L) := by
  refine val_kI ?_
  rw [List.map_map]
  have e : ((fun p : Key × V => p.1) ∘ fun k : Key => (k, V.bl true)) = id := rfl
  rw [e, List.map_id, kI_mem, decide_eq_true_iff]
theorem set_snoc {L : List Nat} {n : Nat} (h : n ∉ L) : putK ((kI L).map fun k => (k, V.bl true)) (kN n) (.bl true) = (kI (L ++ [n])).map fun k => (k, V.bl true) := by
  have e : valV ((kI L).map fun k => (k, V.bl true)) (kN n) = none := by
    have := set_in (L := L) (n := n)
    rw [decide_eq_false h] at this
    cases e : valV ((kI L).map fun k => (k, V.bl true)) (kN n) with
    | none => rfl
    | some v => rw [e] at this; cases this
  rw [putK_new _ e, show kI (L ++ [n]) = kI L ++ [kN n] from List.map_append .., List.map_append]
  rfl
def natD (W : List Nat) : PyData := .list (W.map fun (n : Nat) => .int n)
theorem nat_all {H : Hp} : ∀ W : List Nat, DpAll K H (W.map iV) (W.map fun (n : Nat) => .int n)
  | [] => .nil
  | n :: W => .cons (.int n) (nat_all W)
theorem nat_dp {H : Hp} {p : Addr} {W : List Nat} (h : SqL K H p (W.map iV)) : Dp K H (.ref p) (natD W) := .lst h (nat_all W)
theorem nat_shaped (W : List Nat) : SeqAt.shaped (natD W) = true := shaped_list (n := 0) (by decide) fun d hd => by
  obtain ⟨n, _, rfl⟩ := List.mem_map.mp hd
  simp [PyData.canLay0, PyData.depth]
theorem nat_nil (W : List Nat) : PyData.eqv (natD W) (.list []) = W.isEmpty := by
  simp only [natD, PyData.eqv]
  rw [eqvAll_nil]
  cases W <;> rfl
def sp_still_safe (K : PySem.W.Frag) (w : World) : Sp := fun vs H Q E => ∃ (a : Addr) (v : V) (many : Nat) (sts : List StepD) (bad : List Nat) (r : Sum (List Str) Nat), vs = [.ref a, v] ∧ AskAt K w H a v many sts bad r ∧ RulesEnd K H r E fun R => ∀ p H', Same H H' → H p = none → H' p = some (.lst ((safe (grOf many sts R) bad).map iV)) → Q (.ref p) H'

theorem sc_still_safe : FnScope ["play", "rules", "table", "ahead", "here", "row", "word", "lost", "waiting", "stand"] ["play", "rules"] (defScope s_still_safe) := ⟨rfl, rfl, rfl, by decide +kernel, rfl, by decide +kernel, by decide +kernel⟩
theorem ok_still_safe (T : Tx K mg) (Pl : PlTx K mg) (D : Df K mg "still_safe" s_still_safe) (c_checked_rules : Cal w K mg base (L2.CX Pg w) 4 "checked_rules" ["rules"] (sp_checked_rules K w)) (c_steps_under : Cal w K mg base CX0 2 "steps_under" ["play", "rules"] (sp_steps_under K w)) : Cal w K mg base (L2.CX Pg w) 6 "still_safe" ["play", "rules"] (sp_still_safe K w) := by
  have nd := sc_still_safe.nd
  refine D.ok (N := ["play", "rules", "table", "ahead", "here", "row", "word", "lost", "waiting", "stand"]) sc_still_safe (fun vs H Q E h => ?_) (fun _ _ _ _ _ _ us hl => match us, hl with | [_, _], _ => rfl) (fun cdv A outer s H vs Q E hr h => ?_)
  · obtain ⟨a, v, many, sts, bad, r, rfl, hA, hend⟩ := h
    rfl
  · have hu := hu_of hr
    have hu9 := hu9_of hr
    obtain ⟨fl, FL, bl⟩ := ok_Play_len (w := w) (base := base) T Pl
    obtain ⟨a, v, many, sts, bad, r, rfl, hA, hend⟩ := h
    refine ⟨_, (pss_cons (ps_set (i := 2) nd rfl (by first | exact Or.inl rfl | exact Or.inr rfl) (pe_cal rfl c_steps_under (hr.mono (by first | decide | (simp only [Nat.add_eq]; omega))) pass0 (pa_cons (pv 0) (pa_cons (pe_cal rfl c_checked_rules (hr.mono (by first | decide | (simp only [Nat.add_eq]; omega))) (by exact (passes_call (takes_of rfl rfl rfl rfl) (fun _ _ _ _ h => h))) (pa_cons (pv 1) pa_nil)) pa_nil))))
      (pss_cons (ps_setDc (i := 3) (own := [("stand", 9)]) (by rfl) nd rfl rfl (sw_trueD rfl rfl rfl (by decide +kernel)) (pi_range1 (by rfl) T.n_range (pa_cons (pe_callB (cr_lenO FL Pl.ln.at_ Pl.ln.fn bl pass0 (hr.mono (by decide))) (by rfl) T.n_len (by decide +kernel) (pa_cons (pv 0) pa_nil)) pa_nil)) (blkOk_by (own := [("stand", 9)]) (N := ["play", "rules", "table", "ahead", "here", "row", "word", "lost", "waiting", "stand"]) (sc := defScope s_still_safe) (by decide +kernel)) (fun _ _ _ _ _ => (pg_name (i := 9) nd rfl (by first | exact Or.inl rfl | exact Or.inr rfl))) (fun _ _ _ _ _ => pts_nil) (fun _ _ _ _ _ => (pv 9)) (fun _ _ _ _ _ => (pe_lst pa_nil)))
      (pss_cons (ps_for (passes_of rfl) rfl (pi_enum (by rfl) T.n_enumerate (pa_cons (pv 2) pa_nil)) (pg_tup rfl (pgs_cons (pg_name (i := 4) nd rfl (by first | exact Or.inl rfl | exact Or.inr rfl)) (pgs_cons (pg_name (i := 5) nd rfl (by first | exact Or.inl rfl | exact Or.inr rfl)) pgs_nil))) (pss_one (ps_for (passes_of rfl) rfl (pi_words (pv 5)) (pg_name (i := 6) nd rfl (by first | exact Or.inl rfl | exact Or.inr rfl)) (pss_one (ps_expr (pe_bm PySem.F.plainAttrs_list PySem.F.slot_list_append PySem.F.type_list_append mt_append (pe_dget hu (pv 3) (pe_ix (ix_W hu9) (pv 5) (pv 6) (fun _ _ => rfl)) (fun _ _ => rfl)) (pa_cons (pv 4) pa_nil)))))))
      (pss_cons (ps_asg (pe_tup (pa_cons (pe_dc (own := [("stand", 9)]) (by rfl) nd (pi_list (pe_fld (pv 0) rfl)) (blkOk_by (own := [("stand", 9)]) (N := ["play", "rules", "table", "ahead", "here", "row", "word", "lost", "waiting", "stand"]) (sc := defScope s_still_safe) (by decide +kernel)) (fun _ _ _ _ _ => (pg_name (i := 9) nd rfl (by first | exact Or.inl rfl | exact Or.inr rfl))) (fun _ _ _ _ _ => pts_nil) (fun _ _ _ _ _ => (pv 9)) (fun _ _ _ _ _ => pe_bl)) (pa_cons (pe_callTy call_list_of (by rfl) T.n_list (by decide +kernel) (pa_cons (pe_fld (pv 0) rfl) pa_nil)) pa_nil))) (pg_tup rfl (pgs_cons (pg_name (i := 7) nd rfl (by first | exact Or.inl rfl | exact Or.inr rfl)) (pgs_cons (pg_name (i := 8) nd rfl (by first | exact Or.inl rfl | exact Or.inr rfl)) pgs_nil))))
      (pss_cons (ps_while (passes_of rfl) (pt_cmpR (op_neD hr.units) (pv 8) (pe_lst pa_nil) (nomark _)) (pss_one (ps_for (passes_of rfl) rfl (pi_list (pe_dget hu (pv 3) (pe_bm0 PySem.F.plainAttrs_list PySem.F.slot_list_pop PySem.F.type_list_pop mt_pop (pv 8)) (fun _ _ => rfl))) (pg_name (i := 4) nd rfl (by first | exact Or.inl rfl | exact Or.inr rfl)) (pss_one (ps_if (pt_cmp (pc_dnotin hu (pv 4) (pv 7)) (by with_unfolding_all rfl)) (pss_cons (ps_dput hu (pv 7) (pv 4) pe_bl rfl)
      (pss_one (ps_expr (pe_bm PySem.F.plainAttrs_list PySem.F.slot_list_append PySem.F.type_list_append mt_append (pv 8) (pa_cons (pv 4) pa_nil))))) pss_nil)))))
      (pss_one (ps_ret (pe_lc (own := [("stand", 9)]) (by rfl) nd (pi_range1 (by rfl) T.n_range (pa_cons (pe_callB (cr_lenO FL Pl.ln.at_ Pl.ln.fn bl pass0 (hr.mono (by decide))) (by rfl) T.n_len (by decide +kernel) (pa_cons (pv 0) pa_nil)) pa_nil)) (blkOk_by (own := [("stand", 9)]) (N := ["play", "rules", "table", "ahead", "here", "row", "word", "lost", "waiting", "stand"]) (sc := defScope s_still_safe) (by decide +kernel)) (fun _ _ _ _ _ => (pg_name (i := 9) nd rfl (by first | exact Or.inl rfl | exact Or.inr rfl))) (fun _ _ _ _ _ => (pts_one (pt_cmp (pc_dnotin hu (pv 9) (pv 7)) (by with_unfolding_all rfl)))) (fun _ _ _ _ _ => (pv 9)))))))))), ?_⟩
    refine ⟨_, rfl, _, rfl, v, r, rfl, hA.rules, ?_⟩
    cases r with
    | inr i => exact hend
    | inl R =>
      have hend : ∀ p H', Same H H' → H p = none → H' p = some (.lst ((safe (grOf many sts R) bad).map iV)) → Q (.ref p) H' := hend
      intro d H1 s1 hd hR1
      have hPl := PlayAt.same s1 hA.play
      refine ⟨a, d, many, sts, bad, R, rfl, hPl, hR1, hA.ok.ok, hA.ok.bars, hA.ok.few, fun t H2 ds s2 ht hT => ?_⟩
      have hG : GrOk (grOf many sts R) := grOf_ok hA.ok.ok hA.ok.pos
      have hGl : (grOf many sts R).length = many := grOf_len
      have hr60 := fun s => grOf_few (R := R) hA.ok.ok s
      generalize grOf many sts R = G at hend hT hG hGl hr60
      have s12 := Same.trans s1 s2
      obtain ⟨dx, tp, b, dsP, ms, q1, q2, q3, q4⟩ := id hA.play
      have h60 := hA.ok.few
      have hPl2 := PlayAt.same s12 hA.play
      refine ⟨_, rfl, a, dx, _, rfl, s12 _ _ q1, a, many, sts, bad, rfl, hPl2, many, rfl, by omega, many, rfl, by omega, by omega, fun ah hah => ?_⟩
      refine dc_fm walk_range (kI (List.range many)) (by rw [List.length_map, List.length_range, Int.toNat_natCast]) (kI_nodup List.nodup_range) (by rw [Int.toNat_natCast]; exact Nat.le_of_lt (small1000 (by omega))) hah (fun _ _ => trivial) (fun zs H3 => ∃ la : List Addr, zs = la.map V.ref ∧ la.Nodup ∧ ∀ l ∈ la, H2 l = none ∧ H3 l = some (.lst []))
        (fun zs H3 H4 ⟨kvs, hkvs⟩ hk ⟨la, e, nd', hd⟩ => ⟨la, e, nd', fun l hm => ⟨(hd l hm).1, hk l _ (ne_of (hd l hm).2 hkvs (fun z => nomatch z)) (hd l hm).2⟩⟩) (fun _ _ => ⟨[], rfl, List.nodup_nil, fun _ z => nomatch z⟩) (fun i k x H3 H4 zs hk s3 hlz ⟨la, e, nd', hd⟩ ⟨eH, ex⟩ R' hR => ?_) (fun H3 zs s3 hlz ⟨la, e, nd', hd⟩ hd3 => ?_) tYes_mono gName_mono
      · subst eH
        obtain ⟨i', hi', ek⟩ := map_get hk
        have ei : i = i' := by
          rw [List.getElem?_range (by have := (List.getElem?_eq_some_iff.mp hi').1; rw [List.length_range] at this; exact this)] at hi'
          exact Option.some.inj hi'
        subst ei ek
        have ex : x = kV (kN i) := by
          rw [ex]
          show V.int (0 + (i : Int)) = V.int (i : Int)
          rw [Int.zero_add]
        subst ex
        refine ⟨rfl, _, rfl, (by decide : 0 ≤ sizeLine), fun l hl => hR _ _ (Same.new hl) ⟨la ++ [l], by rw [e, List.map_append]; rfl, ?_, fun l' hm' => ?_⟩⟩
        · rw [List.nodup_append]
          refine ⟨nd', by simp, fun x hx y hy e => ?_⟩
          rw [List.mem_singleton.mp hy] at e
          rw [e] at hx
          rw [(hd l hx).2] at hl
          cases hl
        · rcases List.mem_append.mp hm' with hm' | hm'
          · exact ⟨(hd l' hm').1, Same.new hl _ _ (hd l' hm').2⟩
          · rw [List.mem_singleton.mp hm']
            exact ⟨Same.free s3 hl, upd_same⟩
      · subst e
        rw [Int.toNat_natCast, List.length_map] at hlz
        have hA0 : AhAt H3 ah many la fun _ => [] := ⟨hd3, hlz, nd', fun s l h => (hd l (List.mem_of_getElem? h)).2⟩
        have hla : ∀ l ∈ la, H2 l = none := fun l hm => (hd l hm).1
        have hT3 := TabAt.same s3 hT
        refine ⟨_, rfl, t, _, rfl, SqL.of hT3.lst, ?_⟩
        refine for_it walk_enum (fun i σ H4 => ∃ x4 x5 x6 x7 x8 x9 A, σ = [some (.ref a), some v, some (.ref t), some (.ref ah), x4, x5, x6, x7, x8, x9] ∧ Same H2 H4 ∧ AhAt H4 ah many la A ∧ (∀ s h, h ∈ A s ↔ h < i ∧ ∃ wd, (wd, s) ∈ row G h) ∧ ∀ s, (A s).length ≤ 60 * i)
          ⟨_, _, _, _, _, _, _, rfl, s3, hA0, fun s h => ⟨fun z => (nomatch z), fun ⟨z, _⟩ => absurd z (Nat.not_lt_zero _)⟩, fun _ => Nat.zero_le _⟩ (fun i σ H4 _ ⟨_, _, _, _, _, _, _, _, s4, _⟩ => SqL.of (s4 _ _ hT.lst)) ?_ ?_
        · rintro i x σ H4 H5 hi ⟨x4, x5, x6, x7, x8, x9, A, rfl, s4, hAh, hiff, hlen⟩ ⟨Tp, ix, st, rfl, hTp, rfl, e1, e2⟩
          cases e1
          obtain ⟨dr, hdr, rfl⟩ := map_get e2
          have hli : i < many := by rw [List.length_map] at hi; rw [← hGl, ← hT.len]; exact hi
          have s5 := Same.then (o := .tup [.int (i : Nat), .ref dr]) s4 hTp
          have hAh5 := AhAt.same (Same.new hTp (o := .tup [.int (i : Nat), .ref dr])) hAh
          refine ⟨Tp, _, rfl, SqT.of upd_same, rfl, _, _, rfl, _, _, rfl, rfl, ?_⟩
          generalize L2.upd H4 Tp (.tup [.int (i : Nat), .ref dr]) = H5 at s5 hAh5
          obtain ⟨es, ep, hes, hpe⟩ := hT.rows _ _ hdr
          have hnd : (es.map (·.1)).Nodup := by rw [paired_keysS hpe]; exact hG.nd i
          refine ⟨_, rfl, dr, es, ep, rfl, s5 _ _ hes, ?_⟩
          refine for_it walk_words (fun j σ H6 => ∃ x6 x7 x8 x9 A, σ = [some (.ref a), some v, some (.ref t), some (.ref ah), some (iV i), some (.ref dr), x6, x7, x8, x9] ∧ Same H2 H6 ∧ AhAt H6 ah many la A ∧ (∀ s h, h ∈ A s ↔ (h < i ∧ ∃ wd, (wd, s) ∈ row G h) ∨ (h = i ∧ ∃ wd, (wd, s) ∈ (row G i).take j)) ∧ ∀ s, (A s).length ≤ 60 * i + j)
            ⟨_, _, _, _, A, rfl, s5, hAh5, fun s h => ⟨fun z => .inl ((hiff s h).mp z), fun z => z.elim (hiff s h).mpr fun ⟨_, _, z⟩ => nomatch z⟩, hlen⟩ (fun j σ H6 _ ⟨_, _, _, _, _, _, s6, _⟩ => s6 _ _ hes) ?_ ?_
          · rintro j x σ H6 H7 hj ⟨x6, x7, x8, x9, A', rfl, s6, hAh6, hiff6, hlen6⟩ ⟨rfl, en, hen, rfl⟩
            obtain ⟨mm, hmm, hk1, hk2, hk3⟩ := paired_get hpe hen
            have hkv : valV (kvOf es) en.1 = some (iV mm.2) := by rw [kv_at hnd hen, hk3]
            have hms : mm.2 < many := by rw [← hGl]; exact hG.to i mm.1 mm.2 (List.mem_of_getElem? hmm)
            obtain ⟨l, hl⟩ : ∃ l, la[mm.2]? = some l := ⟨_, List.getElem?_eq_getElem (by rw [hAh6.len]; exact hms)⟩
            have hdg : DGet H7 ah (kV (kN mm.2)) (some (.ref l)) := zip_range hAh6.len hl ▸ DGet.k (k := kN mm.2) hAh6.dict
            have hlst := hAh6.at_ _ _ hl
            have hjl : j < (row G i).length := (List.getElem?_eq_some_iff.mp hmm).1
            have hr60i := hr60 i
            refine ⟨_, rfl, _, rfl, _, rfl, dr, es, en.1, iV mm.2, rfl, WdAt.tle (Same.tle s6) hk2, ⟨⟨ep, s6 _ _ hes⟩, fun e he => WdAt.tle (Same.tle s6) (paired_wordsS hpe e he)⟩, hkv, ah, .ref l, rfl, hdg, .inl ⟨rfl, _, SqL.of hlst⟩, _, rfl, l, _, iV i, rfl, rfl, hlst, ?_, ?_⟩
            · rw [List.length_map]
              have := hlen6 mm.2
              exact Nat.lt_of_lt_of_le (show (A' mm.2).length < 4000 by omega) (by decide : 4000 ≤ sizeLine)
            · refine ⟨_, _, _, _, addA A' mm.2 i, rfl, Same.over s6 (hla l (List.mem_of_getElem? hl)), AhAt.add hAh6 hl i, fun s h => ?_, fun s => ?_⟩
              · unfold addA
                rw [take_snoc hmm]
                by_cases e : s = mm.2
                · subst e
                  rw [if_pos rfl, List.mem_append, hiff6, List.mem_singleton]
                  constructor
                  · rintro ((z | ⟨z1, wd, z2⟩) | rfl)
                    · exact .inl z
                    · exact .inr ⟨z1, wd, List.mem_append_left _ z2⟩
                    · exact .inr ⟨rfl, mm.1, List.mem_append_right _ List.mem_cons_self⟩
                  · rintro (z | ⟨z1, wd, z2⟩)
                    · exact .inl (.inl z)
                    · exact .inr z1
                · rw [if_neg e, hiff6]
                  refine or_congr_right (and_congr_right fun _ => exists_congr fun wd => ?_)
                  rw [List.mem_append, List.mem_singleton]
                  exact ⟨.inl, fun z => z.elim id fun q => absurd (congrArg (·.2) q) e⟩
              · unfold addA
                have := hlen6 s
                split
                · rw [List.length_append, List.length_singleton]
                  omega
                · omega
          · rintro σ H6 ⟨x6, x7, x8, x9, A', rfl, s6, hAh6, hiff6, hlen6⟩
            rw [Paired.length hpe] at hlen6 hiff6
            refine ⟨_, _, _, _, _, _, A', rfl, s6, hAh6, fun s h => ?_, fun s => ?_⟩
            · rw [hiff6, List.take_length]
              constructor
              · rintro (⟨z1, z2⟩ | ⟨rfl, z2⟩)
                · exact ⟨Nat.lt_succ_of_lt z1, z2⟩
                · exact ⟨Nat.lt_succ_self _, z2⟩
              · rintro ⟨z1, z2⟩
                rcases Nat.lt_or_ge h i with lt | ge
                · exact .inl ⟨lt, z2⟩
                · have e : h = i := by omega
                  subst e
                  exact .inr ⟨rfl, z2⟩
            · have := hlen6 s
              have := hr60 i
              omega
        · rintro σ H4 ⟨x4, x5, x6, x7, x8, x9, A, rfl, s4, hAh, hiff, hlen⟩
          have hAiff : ∀ s h, h ∈ A s ↔ ∃ wd, (wd, s) ∈ row G h := fun s h => by
            rw [hiff, List.length_map, hT.len]
            refine ⟨fun z => z.2, fun z => ⟨?_, z⟩⟩
            obtain ⟨wd, hm⟩ := z
            rcases Nat.lt_or_ge h G.length with lt | ge
            · exact lt
            · rw [row_out ge] at hm
              cases hm
          clear hd hd3 hA0
          have s24 := Same.trans s12 s4
          refine ⟨_, rfl, a, plC K, dx, _, .ref b, rfl, s24 _ _ q1, Pl.cl, Pl.n2, rfl, b, rfl, ⟨_, SqL.of (s24 _ _ q3)⟩, fun lo hlo0 => ?_⟩
          have hmf : ms.length ≤ 60 := by rw [q4.length_eq]; exact hA.ok.bfew
          refine dc_fm (walk_list (xs := ms.map iV)) (kI ms) (by simp) (kI_nodup (q4.nodup_iff.mpr hA.ok.bnd)) (by rw [List.length_map]; exact Nat.le_of_lt (small1000 (by omega))) hlo0 (fun H5 s5 => SqL.of (Same.trans s24 s5 _ _ q3)) (fun zs _ => zs = List.replicate zs.length (.bl true)) (fun _ _ _ _ _ h => h) (fun _ _ => rfl)
            (fun i k x H5 H6 zs hk s5 _ hz ⟨e, hx⟩ R' hR => ?_) (fun H5 zs s5 hlz hz hd5 => ?_) tYes_mono gName_mono
          · subst e
            obtain ⟨n, hn, rfl⟩ := map_get hx
            obtain ⟨n', hn', rfl⟩ := map_get hk
            rw [hn] at hn'
            cases hn'
            refine ⟨rfl, _, rfl, hR _ _ (Same.refl _) ?_⟩
            rw [List.length_append, List.length_singleton, List.replicate_succ', ← hz]
          · rw [List.length_map] at hlz
            have hlo5 : SetAt H5 lo ms := by
              show H5 lo = _
              rw [hd5, hz, hlz, zip_true, List.length_map]
            have s25 := Same.trans s24 s5
            refine ⟨_, rfl, a, plC K, dx, _, .ref b, rfl, s25 _ _ q1, Pl.cl, Pl.n2, rfl, b, _, rfl, .inl (SqL.of (s25 _ _ q3)), fun wa hwa => ?_⟩
            refine ⟨(by decide : 2 ≤ sizeLine), fun Tp hTp => ?_⟩
            refine ⟨Tp, _, rfl, SqT.of upd_same, rfl, _, _, rfl, _, _, rfl, rfl, ?_⟩
            have s46 : Same H4 (L2.upd (L2.upd H5 wa (.lst (ms.map iV))) Tp (.tup [.ref lo, .ref wa])) := Same.then (Same.then s5 hwa) hTp
            have hlo6 : SetAt (L2.upd (L2.upd H5 wa (.lst (ms.map iV))) Tp (.tup [.ref lo, .ref wa])) lo ms := Same.then (Same.new hwa) hTp _ _ hlo5
            have hwa6 : (L2.upd (L2.upd H5 wa (.lst (ms.map iV))) Tp (.tup [.ref lo, .ref wa])) wa = some (.lst (ms.map iV)) := Same.new hTp _ _ upd_same
            have hwa4 : H4 wa = none := Same.free s5 hwa
            generalize L2.upd (L2.upd H5 wa (.lst (ms.map iV))) Tp (.tup [.ref lo, .ref wa]) = H6 at s46 hlo6 hwa6
            refine ⟨fun m σ H7 => ∃ x4 x5 x6 x9 L W h, σ = [some (.ref a), some v, some (.ref t), some (.ref ah), x4, x5, x6, some (.ref lo), some (.ref wa), x9] ∧ Same H4 H7 ∧ SetAt H7 lo L ∧ H7 wa = some (.lst (W.map iV)) ∧ LInv G A bad L W h [] ∧ 2 * (many - L.length) + W.length ≤ m,
              ⟨_, _, _, _, _, ms, ms, 0, rfl, s46, hlo6, hwa6, LInv.start q4 hA.ok.bnd (fun b hb => by rw [hGl]; exact hA.ok.blt b hb), Nat.le_refl _⟩, ?_⟩
            rintro m σ H7 ⟨x4, x5, x6, x9, L, W, h, rfl, s47, hlo7, hwa7, hI, hm⟩
            refine ⟨_, rfl, (by decide : 0 ≤ sizeLine), fun pe hpe => ?_⟩
            have s78 : Same H7 (L2.upd H7 pe (.lst [])) := Same.new hpe
            have hpe8 : (L2.upd H7 pe (.lst [])) pe = some (.lst []) := upd_same
            generalize L2.upd H7 pe (.lst []) = H8 at s78 hpe8
            have s48 := Same.trans s47 s78
            have hlo8 : SetAt H8 lo L := s78 _ _ hlo7
            have hwa8 := s78 _ _ hwa7
            refine ⟨natD W, .list [], nat_dp (SqL.of hwa8), .lst (SqL.of hpe8) .nil, nat_shaped W, shaped_nil, _, rfl, ?_⟩
            rw [nat_nil]
            have hW : W = [] ∨ ∃ (W' : List Nat) (x : Nat), W = W' ++ [x] := (List.eq_nil_or_concat W).imp id fun ⟨W', x, e⟩ => ⟨W', x, e.trans (List.concat_eq_append ..)⟩
            rcases hW with rfl | ⟨W', x, rfl⟩
            · have hL : ∀ s, s ∈ L ↔ ∃ b ∈ bad, Rch G s b := fun s => (show LInv G A bad L [] h [] from hI).end hAiff
              have s28 := Same.trans s24 s48
              have hPl8 := PlayAt.same s28 hA.play
              refine ⟨_, rfl, a, dx, _, rfl, s28 _ _ q1, a, many, sts, bad, rfl, hPl8, many, rfl, by omega, many, rfl, by omega, by omega, fun D hD => ?_⟩
              refine lc_fm walk_range ((List.range many).map fun s => if s ∈ L then none else some (iV s)) (by rw [List.length_map, List.length_range, Int.toNat_natCast]) (by rw [Int.toNat_natCast]; exact Nat.le_of_lt (small1000 (by omega))) hD (fun _ _ => trivial) (fun i o x H9 H10 ho s9 ⟨e, ex⟩ R' hR => ?_) fun H9 s9 hD9 => ?_
              · subst e
                obtain ⟨i', hi', eo⟩ := map_get ho
                have ei : i = i' := by
                  rw [List.getElem?_range (by have := (List.getElem?_eq_some_iff.mp hi').1; rw [List.length_range] at this; exact this)] at hi'
                  exact Option.some.inj hi'
                subst ei
                have ex : x = iV i := by
                  rw [ex]
                  show V.int (0 + (i : Int)) = V.int (i : Int)
                  rw [Int.zero_add]
                subst ex
                refine ⟨rfl, _, rfl, _, rfl, lo, _, rfl, DGet.k (k := kN i) (s9 _ _ hlo8), _, rfl, ?_⟩
                rw [set_in]
                subst eo
                by_cases hi : i ∈ L
                · rw [decide_eq_true hi]
                  rw [if_pos hi] at hR
                  exact hR _ (Same.refl _)
                · rw [decide_eq_false hi]
                  rw [if_neg hi] at hR
                  exact ⟨_, rfl, hR _ (Same.refl _)⟩
              · refine hend D H9 (Same.trans s28 s9) (Same.free s28 hD) ?_
                rw [hD9, ← safe_of hL, hGl]
                congr 2
                generalize List.range many = l
                induction l with
                | nil => rfl
                | cons s l ih =>
                  by_cases hs : s ∈ L
                  · simp [hs, ih]
                  · simp [hs, ih]
            · have s28 := Same.trans s24 s48
              have hAh8 := AhAt.same s48 hAh
              have hmem : x ∈ L := hI.sub x (List.mem_append_right _ List.mem_cons_self)
              have hxm : x < many := by rw [← hGl]; exact hI.lt x hmem
              obtain ⟨l, hl⟩ : ∃ l, la[x]? = some l := ⟨_, List.getElem?_eq_getElem (by rw [hAh.len]; exact hxm)⟩
              have hlm := List.mem_of_getElem? hl
              have hdrop : ((W' ++ [x]).map iV).dropLast = W'.map iV := by rw [List.map_append]; exact List.dropLast_concat
              have hlast : ((W' ++ [x]).map iV)[((W' ++ [x]).map iV).length - 1]? = some (iV x) := by
                rw [List.length_map, List.length_append, List.length_singleton, Nat.add_sub_cancel, List.getElem?_map, List.getElem?_concat_length]
                rfl
              have hne : (W' ++ [x]).isEmpty = false := by cases W' <;> rfl
              rw [hne]
              refine ⟨fun σ H9 => ∃ x4 x5 x6 x9 L W h, σ = [some (.ref a), some v, some (.ref t), some (.ref ah), x4, x5, x6, some (.ref lo), some (.ref wa), x9] ∧ Same H4 H9 ∧ SetAt H9 lo L ∧ H9 wa = some (.lst (W.map iV)) ∧ LInv G A bad L W h [] ∧ 2 * (many - L.length) + W.length < m,
                fun σ' H' ⟨x4, x5, x6, x9, Lb, W2, h2, e, z1, z2, z3, z4, z5⟩ => ⟨_, z5, x4, x5, x6, x9, Lb, W2, h2, e, z1, z2, z3, z4, Nat.le_refl _⟩, ?_⟩
              refine ⟨_, rfl, _, rfl, .inl ⟨rfl, _, SqL.of hwa8⟩, wa, _, iV x, rfl, rfl, hwa8, hlast, ?_⟩
              rw [hdrop]
              have s49 : Same H4 (L2.upd H8 wa (.lst (W'.map iV))) := Same.over s48 hwa4
              have hlo9 : SetAt (L2.upd H8 wa (.lst (W'.map iV))) lo L := by
                show (L2.upd H8 wa (.lst (W'.map iV))) lo = _
                rw [upd_ne (ne_of hlo8 hwa8 (fun z => nomatch z))]
                exact hlo8
              have hwa9 : (L2.upd H8 wa (.lst (W'.map iV))) wa = some (.lst (W'.map iV)) := upd_same
              generalize L2.upd H8 wa (.lst (W'.map iV)) = H9 at s49 hlo9 hwa9
              have hAh9 := AhAt.same s49 hAh
              have hdg : DGet H9 ah (kV (kN x)) (some (.ref l)) := zip_range hAh9.len hl ▸ DGet.k (k := kN x) hAh9.dict
              refine ⟨ah, .ref l, rfl, hdg, l, rfl, ⟨_, SqL.of (hAh9.at_ _ _ hl)⟩, ?_⟩
              refine for_list (K := K) (a := l) (xs := (A x).map iV) (fun j σ H9 => ∃ x4 x9 Lb W2, σ = [some (.ref a), some v, some (.ref t), some (.ref ah), x4, x5, x6, some (.ref lo), some (.ref wa), x9] ∧ Same H4 H9 ∧ SetAt H9 lo Lb ∧ H9 wa = some (.lst (W2.map iV)) ∧ LInv G A bad Lb W2 x ((A x).drop j) ∧ x ∈ Lb ∧ 2 * (many - Lb.length) + W2.length < m)
                ⟨_, _, L, W', rfl, s49, hlo9, hwa9, hI.pop, hmem, by rw [List.length_append, List.length_singleton] at hm; omega⟩ (fun j σ H9 _ ⟨_, _, _, _, _, s9, _⟩ => SqL.of ((AhAt.same s9 hAh).at_ _ _ hl)) ?_ ?_
              · rintro j y σ H9 hj ⟨x4, x9, Lb, W2, rfl, s9, hlo, hwa, hI2, hx2, hm2⟩
                obtain ⟨h, hh, rfl⟩ := map_get hj
                have hdr : (A x).drop j = h :: (A x).drop (j + 1) := by
                  obtain ⟨hlt, e⟩ := List.getElem?_eq_some_iff.mp hh
                  rw [← e]
                  exact List.drop_eq_getElem_cons hlt
                rw [hdr] at hI2
                obtain ⟨wd, hwd⟩ := (hAiff x h).mp (List.mem_of_getElem? hh)
                refine ⟨_, rfl, _, rfl, lo, _, rfl, DGet.k (k := kN h) hlo, _, rfl, ?_⟩
                rw [set_in]
                have hll := hI2.len
                by_cases hin : h ∈ Lb
                · rw [decide_eq_true hin]
                  exact ⟨_, _, Lb, W2, rfl, s9, hlo, hwa, hI2.old hin, hx2, hm2⟩
                · rw [decide_eq_false hin]
                  have hhl : h < G.length := by
                    rcases Nat.lt_or_ge h G.length with lt | ge
                    · exact lt
                    · rw [row_out ge] at hwd
                      cases hwd
                  have hI3 := hI2.new hin hx2 hhl ⟨wd, hwd⟩
                  have hll3 := hI3.len
                  refine ⟨_, rfl, _, rfl, lo, _, rfl, DPut.k (k := kN h) hlo ?_, ?_⟩
                  · rw [List.length_map, List.length_map]
                    exact small1000 (by omega)
                  rw [set_snoc hin]
                  have s10 : Same H4 (L2.upd H9 lo (.dK ((kI (Lb ++ [h])).map fun k => (k, .bl true)))) := Same.over s9 hlo0
                  have hlo10 : SetAt (L2.upd H9 lo (.dK ((kI (Lb ++ [h])).map fun k => (k, .bl true)))) lo (Lb ++ [h]) := upd_same
                  have hwa10 : (L2.upd H9 lo (.dK ((kI (Lb ++ [h])).map fun k => (k, .bl true)))) wa = some (.lst (W2.map iV)) := by rw [upd_ne (ne_of hwa hlo (fun z => nomatch z))]; exact hwa
                  generalize L2.upd H9 lo (.dK ((kI (Lb ++ [h])).map fun k => (k, .bl true))) = H10 at s10 hlo10 hwa10
                  refine ⟨_, rfl, .inl ⟨rfl, _, SqL.of hwa10⟩, _, rfl, wa, _, iV h, rfl, rfl, hwa10, ?_, _, _, Lb ++ [h], W2 ++ [h], rfl, Same.over s10 hwa4, ?_, ?_, hI3, List.mem_append_left _ hx2, ?_⟩
                  · rw [List.length_map]
                    exact small1000 (by omega)
                  · show (L2.upd H10 wa _) lo = _
                    rw [upd_ne (ne_of hlo10 hwa10 (fun z => nomatch z))]
                    exact hlo10
                  · rw [upd_same, List.map_append]
                    rfl
                  · have e1 := hll3.1
                    rw [List.length_append, List.length_singleton] at e1 ⊢
                    rw [List.length_append, List.length_singleton]
                    omega
              · rintro σ H9 ⟨x4, x9, Lb, W2, rfl, s9, hlo, hwa, hI2, hx2, hm2⟩
                rw [List.length_map, List.drop_length] at hI2
                exact ⟨x4, x5, x6, x9, Lb, W2, x, rfl, s9, hlo, hwa, hI2, hm2⟩

end
end FF
namespace FF
open PySem PySem.Spec PyProof.Rows L2
section
variable {J : It} {n : Nat} {G : Hp → Prop} {Y : Nat → Hp → V → Hp → Prop} {g g1 : TG} {tt tt1 : TT} {wi1 : TI} {te : TE} {vs vs1 : List Nat} {σ : L2.St} {H1 : Hp} {D : Addr} {Qd : Hp → Prop}
/-- a comprehension of two clauses, the outer one -/
theorem lc2_out (wk : Walk J n G Y) (Pv : Nat → Hp → Prop) (h0 : Pv 0 (L2.upd H1 D (.lst []))) (hG : ∀ i H, i ≤ n → Pv i H → G H)
    (hs : ∀ i x H H', i < n → Pv i H → Y i H x H' → g x (wipe σ vs) H' fun σ2 H2 => wipe σ2 vs = wipe σ vs ∧ tt σ2 H2 fun b H3 =>
      if b = true then wi1 σ2 H3 fun J1 H4 => ∃ W1 : Nat → Nat → Hp → Prop, (∃ m, W1 0 m H4) ∧ ∀ j k H, W1 j k H →
        (J1.stop j H ∧ Pv (i + 1) H) ∨ (J1.go j H ∧ ∃ Nx1 : Hp → Prop, (∀ H', Nx1 H' → ∃ k', k' < k ∧ W1 (j + 1) k' H') ∧ ∀ x H', J1.yld j H x H' → g1 x (wipe σ2 vs1) H' fun σ3 H5 => wipe σ3 vs1 = wipe σ2 vs1 ∧ tt1 σ3 H5 fun b H6 =>
          if b = true then te σ3 H6 fun y H7 => ∃ acc, H7 D = some (.lst acc) ∧ acc.length < sizeLine ∧ Nx1 (L2.upd H7 D (.lst (acc ++ [y]))) else Nx1 H6)
      else Pv (i + 1) H3) (hd : ∀ H, Pv n H → Qd H) :
    ∃ W : Nat → Nat → Hp → Prop, (∃ m, W 0 m (L2.upd H1 D (.lst []))) ∧ ∀ i m H, W i m H →
      (J.stop i H ∧ Qd H) ∨ (J.go i H ∧ ∃ Nx : Hp → Prop, (∀ H', Nx H' → ∃ m', m' < m ∧ W (i + 1) m' H') ∧ ∀ x H', J.yld i H x H' → g x (wipe σ vs) H' fun σ2 H2 => wipe σ2 vs = wipe σ vs ∧ tt σ2 H2 fun b H3 =>
        if b = true then wi1 σ2 H3 fun J1 H4 => ∃ W1 : Nat → Nat → Hp → Prop, (∃ m, W1 0 m H4) ∧ ∀ j k H, W1 j k H →
          (J1.stop j H ∧ Nx H) ∨ (J1.go j H ∧ ∃ Nx1 : Hp → Prop, (∀ H', Nx1 H' → ∃ k', k' < k ∧ W1 (j + 1) k' H') ∧ ∀ x H', J1.yld j H x H' → g1 x (wipe σ2 vs1) H' fun σ3 H5 => wipe σ3 vs1 = wipe σ2 vs1 ∧ tt1 σ3 H5 fun b H6 =>
            if b = true then te σ3 H6 fun y H7 => ∃ acc, H7 D = some (.lst acc) ∧ acc.length < sizeLine ∧ Nx1 (L2.upd H7 D (.lst (acc ++ [y]))) else Nx1 H6)
        else Nx H3) := by
  refine ⟨fun i m H => m + i = n ∧ Pv i H, ⟨n, by omega, h0⟩, fun i m H ⟨e, p⟩ => ?_⟩
  rcases Nat.lt_or_ge i n with hlt | hge
  · exact .inr ⟨wk.goes i H hlt (hG i H (Nat.le_of_lt hlt) p), Pv (i + 1), fun H' p' => ⟨m - 1, by omega, by omega, p'⟩, fun x H' y => hs i x H H' hlt p (wk.yields i H x H' hlt (hG i H (Nat.le_of_lt hlt) p) y)⟩
  · have : i = n := by omega
    subst this
    exact .inl ⟨wk.stops H (hG i H (Nat.le_refl _) p), hd H p⟩
/-- .., the inner one -/
theorem lc2_in {σ2 : L2.St} {H4 : Hp} {Nx : Hp → Prop} (wk : Walk J n G Y) (Pv : Nat → Hp → Prop) (h0 : Pv 0 H4) (hG : ∀ i H, i ≤ n → Pv i H → G H)
    (hs : ∀ j x H H', j < n → Pv j H → Y j H x H' → g1 x (wipe σ2 vs1) H' fun σ3 H5 => wipe σ3 vs1 = wipe σ2 vs1 ∧ tt1 σ3 H5 fun b H6 =>
      if b = true then te σ3 H6 fun y H7 => ∃ acc, H7 D = some (.lst acc) ∧ acc.length < sizeLine ∧ Pv (j + 1) (L2.upd H7 D (.lst (acc ++ [y]))) else Pv (j + 1) H6) (hd : ∀ H, Pv n H → Nx H) :
    ∃ W1 : Nat → Nat → Hp → Prop, (∃ m, W1 0 m H4) ∧ ∀ j k H, W1 j k H →
      (J.stop j H ∧ Nx H) ∨ (J.go j H ∧ ∃ Nx1 : Hp → Prop, (∀ H', Nx1 H' → ∃ k', k' < k ∧ W1 (j + 1) k' H') ∧ ∀ x H', J.yld j H x H' → g1 x (wipe σ2 vs1) H' fun σ3 H5 => wipe σ3 vs1 = wipe σ2 vs1 ∧ tt1 σ3 H5 fun b H6 =>
        if b = true then te σ3 H6 fun y H7 => ∃ acc, H7 D = some (.lst acc) ∧ acc.length < sizeLine ∧ Nx1 (L2.upd H7 D (.lst (acc ++ [y]))) else Nx1 H6) := by
  refine ⟨fun i m H => m + i = n ∧ Pv i H, ⟨n, by omega, h0⟩, fun i m H ⟨e, p⟩ => ?_⟩
  rcases Nat.lt_or_ge i n with hlt | hge
  · exact .inr ⟨wk.goes i H hlt (hG i H (Nat.le_of_lt hlt) p), Pv (i + 1), fun H' p' => ⟨m - 1, by omega, by omega, p'⟩, fun x H' y => hs i x H H' hlt p (wk.yields i H x H' hlt (hG i H (Nat.le_of_lt hlt) p) y)⟩
  · have : i = n := by omega
    subst this
    exact .inl ⟨wk.stops H (hG i H (Nat.le_refl _) p), hd H p⟩
end
section
variable {w : World} {K : PySem.W.Frag} {mg : Str → Option Value} {base : Heap}
theorem set_old {L : List Nat} {n : Nat} (h : n ∈ L) : putK ((kI L).map fun k => (k, V.bl true)) (kN n) (.bl true) = (kI L).map fun k => (k, V.bl true) := by
  unfold putK
  rw [if_pos (by
    rw [List.any_eq_true]
    exact ⟨(kN n, .bl true), List.mem_map.mpr ⟨kN n, kI_mem.mpr h, rfl⟩, by simp⟩), List.map_map]
  refine List.map_congr_left fun k _ => ?_
  show (if k = kN n then (k, V.bl true) else (k, V.bl true)) = (k, V.bl true)
  split <;> rfl
/-- what is asked about -/
inductive ThingIn (K : PySem.W.Frag) (H : Hp) (many : Nat) : V → Option (List Nat) → Prop where
  | no {v : V} {k : Kd} (h : KdAt K H v k) (n1 : k ≠ .lst) (n2 : k ≠ .tup) : ThingIn K H many v none
  | bad {a : Addr} {xs : List V} (h : SqL K H a xs) (ks : ∀ x ∈ xs, ∃ k, KdAt K H x k) (f : xs.length ≤ 60) (b : (xs.map (standB many)).all id = false) : ThingIn K H many (.ref a) none
  | dup {a : Addr} {ns : List Nat} (h : SqL K H a (ns.map iV)) (lt : ∀ n ∈ ns, n < many) (f : ns.length ≤ 60) (b : ¬ ns.Nodup) : ThingIn K H many (.ref a) none
  | ok {a : Addr} {ns : List Nat} (h : SqL K H a (ns.map iV)) (lt : ∀ n ∈ ns, n < many) (f : ns.length ≤ 60) (b : ns.Nodup) : ThingIn K H many (.ref a) (some ns)
theorem ThingIn.leq {H H' : Hp} {many : Nat} {v : V} {o : Option (List Nat)} (e : Leq H H') (h : ThingIn K H many v o) : ThingIn K H' many v o := by
  cases h with
  | no h a b => exact .no (KdAt.leq e h) a b
  | bad h ks f b => exact .bad (SqL.leq e h) (fun x hx => let ⟨k, q⟩ := ks x hx; ⟨k, KdAt.leq e q⟩) f b
  | dup h lt f b => exact .dup (SqL.leq e h) lt f b
  | ok h lt f b => exact .ok (SqL.leq e h) lt f b
def cloO (G : Gr) (bad : List Nat) : Option (List Nat) → Bool
  | none => false
  | some ns => cloB G bad ns
/-- what the last comprehension gathers -/
def gath (G : Gr) (L : List Nat) (l : List Nat) : List Bool := l.flatMap fun s => (row G s).map fun m => decide (m.2 ∈ L)
theorem gath_snoc {G : Gr} {L l : List Nat} {s : Nat} : gath G L (l ++ [s]) = gath G L l ++ (row G s).map fun m => decide (m.2 ∈ L) := by
  unfold gath
  rw [List.flatMap_append]
  simp
theorem gath_all {G : Gr} {L l : List Nat} : (gath G L l).all id = l.all fun s => (row G s).all fun m => decide (m.2 ∈ L) := by
  unfold gath
  induction l with
  | nil => rfl
  | cons s l ih =>
    rw [List.flatMap_cons, List.all_append, ih, List.all_cons, List.all_map]
    rfl
theorem gath_len {G : Gr} {L : List Nat} (h : ∀ s, (row G s).length ≤ 60) : ∀ l : List Nat, (gath G L l).length ≤ 60 * l.length
  | [] => Nat.le_refl _
  | s :: l => by
    have := gath_len (L := L) h l
    have := h s
    unfold gath at *
    rw [List.flatMap_cons, List.length_append, List.length_map, List.length_cons]
    omega
def sp_is_closed (K : PySem.W.Frag) (w : World) : Sp := fun vs H Q E => ∃ (a : Addr) (v t : V) (many : Nat) (sts : List StepD) (bad : List Nat) (r : Sum (List Str) Nat) (o : Option (List Nat)), vs = [.ref a, v, t] ∧ AskAt K w H a v many sts bad r ∧ (∀ R, r = .inl R → ThingIn K H many t o) ∧
  RulesEnd K H r E fun R => ∀ H', Same H H' → Q (.bl (cloO (grOf many sts R) bad o)) H'
/-- the keys that are kept of a list's first i: all of them, or fewer than i -/
def Seen (ns : List Nat) (i : Nat) (L : List Nat) : Prop := (∀ n, n ∈ L ↔ n ∈ ns.take i) ∧ (((ns.take i).Nodup ∧ L = ns.take i) ∨ (¬ (ns.take i).Nodup ∧ L.length < i))
theorem Seen.step {ns L : List Nat} {i n : Nat} (h : Seen ns i L) (hn : ns[i]? = some n) : Seen ns (i + 1) (if n ∈ L then L else L ++ [n]) := by
  have e := take_snoc hn
  have hlt := (List.getElem?_eq_some_iff.mp hn).1
  obtain ⟨h1, h2⟩ := h
  have hnd : (ns.take i ++ [n]).Nodup ↔ (ns.take i).Nodup ∧ n ∉ ns.take i := by
    rw [List.nodup_append]
    constructor
    · exact fun ⟨a, _, b⟩ => ⟨a, fun hm => b n hm n (by simp) rfl⟩
    · exact fun ⟨a, b⟩ => ⟨a, by simp, fun x hx y hy e => b (by rw [List.mem_singleton.mp hy] at e; exact e ▸ hx)⟩
  by_cases hin : n ∈ L
  · rw [if_pos hin]
    refine ⟨fun m => ?_, .inr ⟨?_, ?_⟩⟩
    · rw [e, List.mem_append, List.mem_singleton, ← h1]
      exact ⟨.inl, fun z => z.elim id fun q => q ▸ hin⟩
    · rw [e, hnd]
      exact fun z => z.2 ((h1 n).mp hin)
    · rcases h2 with ⟨_, rfl⟩ | ⟨_, z⟩
      · rw [List.length_take]
        omega
      · omega
  · rw [if_neg hin]
    refine ⟨fun m => ?_, ?_⟩
    · rw [e, List.mem_append, List.mem_append, ← h1]
    · rcases h2 with ⟨z1, rfl⟩ | ⟨z1, z2⟩
      · exact .inl ⟨by rw [e, hnd]; exact ⟨z1, hin⟩, e.symm⟩
      · refine .inr ⟨by rw [e, hnd]; exact fun z => z1 z.1, ?_⟩
        rw [List.length_append, List.length_singleton]
        omega
theorem any_all {L bad ms : List Nat} (hp : ms.Perm bad) : (ms.map fun s => decide (s ∈ L)).any id = !(L.all fun s => !decide (s ∈ bad)) := by
  rw [Bool.eq_iff_iff]
  rw [List.any_eq_true, Bool.not_eq_true', List.all_eq_false]
  constructor
  · rintro ⟨b, hb, e⟩
    obtain ⟨s, hs, rfl⟩ := List.mem_map.mp hb
    exact ⟨s, of_decide_eq_true e, by simp [hp.mem_iff.mp hs]⟩
  · rintro ⟨s, hs, e⟩
    have : s ∈ bad := by simpa using e
    exact ⟨_, List.mem_map.mpr ⟨s, hp.mem_iff.mpr this, rfl⟩, decide_eq_true hs⟩

theorem sc_is_closed : FnScope ["play", "rules", "thing", "table", "known", "stand", "here", "word"] ["play", "rules", "thing"] (defScope s_is_closed) := ⟨rfl, rfl, rfl, by decide +kernel, rfl, by decide +kernel, by decide +kernel⟩
theorem ok_is_closed (T : Tx K mg) (Pl : PlTx K mg) (D : Df K mg "is_closed" s_is_closed) (c_checked_rules : Cal w K mg base (L2.CX Pg w) 4 "checked_rules" ["rules"] (sp_checked_rules K w)) (c_steps_under : Cal w K mg base CX0 2 "steps_under" ["play", "rules"] (sp_steps_under K w)) (c_is_list : Cal w K mg base CX0 1 "is_list" ["thing"] (sp_is_list K w)) (c_is_stand : Cal w K mg base CX0 3 "is_stand" ["thing", "many"] (sp_is_stand K w)) : Cal w K mg base (L2.CX Pg w) 6 "is_closed" ["play", "rules", "thing"] (sp_is_closed K w) := by
  have nd := sc_is_closed.nd
  refine D.ok (N := ["play", "rules", "thing", "table", "known", "stand", "here", "word"]) sc_is_closed (fun vs H Q E h => ?_) (fun _ _ _ _ _ _ us hl => match us, hl with | [_, _, _], _ => rfl) (fun cdv A outer s H vs Q E hr h => ?_)
  · obtain ⟨a, v, tv, many, sts, bad, r, o, rfl, hA, hTh, hend⟩ := h
    rfl
  · have hu := hu_of hr
    have hu9 := hu9_of hr
    obtain ⟨fl, FL, bl⟩ := ok_Play_len (w := w) (base := base) T Pl
    obtain ⟨a, v, tv, many, sts, bad, r, o, rfl, hA, hTh, hend⟩ := h
    refine ⟨_, (pss_cons (ps_set (i := 3) nd rfl (by first | exact Or.inl rfl | exact Or.inr rfl) (pe_cal rfl c_steps_under (hr.mono (by first | decide | (simp only [Nat.add_eq]; omega))) pass0 (pa_cons (pv 0) (pa_cons (pe_cal rfl c_checked_rules (hr.mono (by first | decide | (simp only [Nat.add_eq]; omega))) (by exact (passes_call (takes_of rfl rfl rfl rfl) (fun _ _ _ _ h => h))) (pa_cons (pv 1) pa_nil)) pa_nil))))
      (pss_cons (ps_if (PW.pt (pw_or (pt_not (pt_val (pe_cal rfl c_is_list (hr.mono (by first | decide | (simp only [Nat.add_eq]; omega))) pass0 (pa_cons (pv 2) pa_nil)))) (pw_or1 (pt_not (pt_val (pe_callB (cr_all rfl) (by rfl) T.n_all (by decide +kernel) (pa_cons (pe_lc (own := [("stand", 5)]) (by rfl) nd (pi_list (pv 2)) (blkOk_by (own := [("stand", 5)]) (N := ["play", "rules", "thing", "table", "known", "stand", "here", "word"]) (sc := defScope s_is_closed) (by decide +kernel)) (fun _ _ _ _ _ => (pg_name (i := 5) nd rfl (by first | exact Or.inl rfl | exact Or.inr rfl))) (fun _ _ _ _ _ => pts_nil) (fun _ _ _ _ _ => (pe_cal rfl c_is_stand (hr.mono (by first | decide | (simp only [Nat.add_eq]; omega))) pass0 (pa_cons (pv 5) (pa_cons (pe_callB (cr_lenO FL Pl.ln.at_ Pl.ln.fn bl pass0 (hr.mono (by decide))) (by rfl) T.n_len (by decide +kernel) (pa_cons (pv 0) pa_nil)) pa_nil))))) pa_nil))))))) (pss_one (ps_ret pe_bl)) pss_nil)
      (pss_cons (ps_set (i := 4) nd rfl (by first | exact Or.inl rfl | exact Or.inr rfl) (pe_dc (own := [("stand", 5)]) (by rfl) nd (pi_list (pv 2)) (blkOk_by (own := [("stand", 5)]) (N := ["play", "rules", "thing", "table", "known", "stand", "here", "word"]) (sc := defScope s_is_closed) (by decide +kernel)) (fun _ _ _ _ _ => (pg_name (i := 5) nd rfl (by first | exact Or.inl rfl | exact Or.inr rfl))) (fun _ _ _ _ _ => pts_nil) (fun _ _ _ _ _ => (pv 5)) (fun _ _ _ _ _ => pe_bl)))
      (pss_cons (ps_if (PW.pt (pw_or (pt_cmpR op_ne (pe_callB call_lenD (by rfl) T.n_len (by decide +kernel) (pa_cons (pv 4) pa_nil)) (pe_callB call_len_seq (by rfl) T.n_len (by decide +kernel) (pa_cons (pv 2) pa_nil)) (nomark _)) (pw_or (pt_cmp (pc_dnotin hu pe_int (pv 4)) (by with_unfolding_all rfl)) (pw_or1 (pt_val (pe_callB (cr_any rfl) (by rfl) T.n_any (by decide +kernel) (pa_cons (pe_lc (own := [("stand", 5)]) (by rfl) nd (pi_list (pe_fld (pv 0) rfl)) (blkOk_by (own := [("stand", 5)]) (N := ["play", "rules", "thing", "table", "known", "stand", "here", "word"]) (sc := defScope s_is_closed) (by decide +kernel)) (fun _ _ _ _ _ => (pg_name (i := 5) nd rfl (by first | exact Or.inl rfl | exact Or.inr rfl))) (fun _ _ _ _ _ => pts_nil) (fun _ _ _ _ _ => (pe_cmp (pc_din hu (pv 5) (pv 4)) (by with_unfolding_all rfl)))) pa_nil))))))) (pss_one (ps_ret pe_bl)) pss_nil)
      (pss_one (ps_ret (pe_callB (cr_all rfl) (by rfl) T.n_all (by decide +kernel) (pa_cons (pe_lock (pe_lc2 (own := [("here", 6), ("word", 7)]) (vs1 := [7]) (by rfl) nd (pi_keys (pv 4)) (blkOk_by (own := [("here", 6), ("word", 7)]) (N := ["play", "rules", "thing", "table", "known", "stand", "here", "word"]) (sc := defScope s_is_closed) (by decide +kernel)) (by decide) (fun _ _ _ _ _ => (pg_name (i := 6) nd rfl (by first | exact Or.inl rfl | exact Or.inr rfl))) (fun _ _ _ _ _ => pts_nil) (fun _ _ _ _ _ => (show PI _ _ _ (iWords w _) from pi_words (pe_ix (show IxR _ (rIxL K) from ix_list) (pv 3) (pv 6) (fun _ _ => rfl)))) (fun _ _ _ _ _ => (pg_name (i := 7) nd rfl (by first | exact Or.inl rfl | exact Or.inr rfl))) (fun _ _ _ _ _ => pts_nil) (fun _ _ _ _ _ => (pe_cmp (pc_din hu (pe_ix (show IxR _ (rIxW K w) from ix_W hu9) (pe_ix (show IxR _ (rIxL K) from ix_list) (pv 3) (pv 6) (fun _ _ => rfl)) (pv 7) (fun _ _ => rfl)) (pv 4)) (by with_unfolding_all rfl))))) pa_nil)))))))), ?_⟩
    refine ⟨_, rfl, _, rfl, v, r, rfl, hA.rules, ?_⟩
    cases r with
    | inr i => exact hend
    | inl R =>
      have hend : ∀ H', Same H H' → Q (.bl (cloO (grOf many sts R) bad o)) H' := hend
      have hTh := hTh R rfl
      intro d H1 s1 hd hR1
      have hPl := PlayAt.same s1 hA.play
      refine ⟨a, d, many, sts, bad, R, rfl, hPl, hR1, hA.ok.ok, hA.ok.bars, hA.ok.few, fun t H2 ds s2 ht hT => ?_⟩
      have hG : GrOk (grOf many sts R) := grOf_ok hA.ok.ok hA.ok.pos
      have hGl : (grOf many sts R).length = many := grOf_len
      have hr60 := fun s => grOf_few (R := R) hA.ok.ok s
      generalize grOf many sts R = G at hend hT hG hGl hr60
      have s12 := Same.trans s1 s2
      obtain ⟨dx, tp, b, dsP, ms, q1, q2, q3, q4⟩ := id hA.play
      have h60 := hA.ok.few
      have hcase : (∃ k, KdAt K H tv k ∧ k ≠ .lst ∧ k ≠ .tup ∧ o = none) ∨ ∃ a' xs, tv = .ref a' ∧ SqL K H a' xs ∧ (∀ x ∈ xs, ∃ k, KdAt K H x k) ∧ xs.length ≤ 60 ∧ (((xs.map (standB many)).all id = false ∧ o = none) ∨ ∃ ns : List Nat, xs = ns.map iV ∧ (∀ n ∈ ns, n < many) ∧ ((¬ ns.Nodup ∧ o = none) ∨ (ns.Nodup ∧ o = some ns))) := by
        cases hTh with
        | no h n1 n2 => exact .inl ⟨_, h, n1, n2, rfl⟩
        | bad h ks f b => exact .inr ⟨_, _, rfl, h, ks, f, .inl ⟨b, rfl⟩⟩
        | @dup a ns h lt f b => exact .inr ⟨_, _, rfl, h, (fun x hx => let ⟨n, _, e⟩ := List.mem_map.mp hx; ⟨.int, e ▸ KdAt.int _⟩), by rw [List.length_map]; exact f, .inr ⟨ns, rfl, lt, .inl ⟨b, rfl⟩⟩⟩
        | @ok a ns h lt f b => exact .inr ⟨_, _, rfl, h, (fun x hx => let ⟨n, _, e⟩ := List.mem_map.mp hx; ⟨.int, e ▸ KdAt.int _⟩), by rw [List.length_map]; exact f, .inr ⟨ns, rfl, lt, .inr ⟨b, rfl⟩⟩⟩
      clear hTh
      rcases hcase with ⟨kd, hk, n1, n2, rfl⟩ | ⟨a', xs, rfl, hs, hks, hf, hcase⟩
      · refine ⟨_, rfl, _, _, rfl, KdAt.leq (Same.leq s12) hk, fun H3 s3 => ⟨_, rfl, ?_⟩⟩
        have hf : (kd.isa "list" || kd.isa "tuple") = false := by cases kd <;> first | rfl | exact absurd rfl n1 | exact absurd rfl n2
        rw [hf]
        exact hend _ (Same.trans s12 s3)
      · refine ⟨_, rfl, _, _, rfl, .lst (SqL.leq (Same.leq s12) hs), fun H3 s3 => ⟨_, rfl, ?_⟩⟩
        have s13 := Same.trans s12 s3
        refine ⟨_, rfl, a', rfl, ⟨_, SqL.leq (Same.leq s13) hs⟩, fun D hD => ?_⟩
        refine lc_fm (walk_list (xs := xs)) (xs.map fun x => some (V.bl (standB many x))) (by simp) (Nat.le_of_lt (small1000 (by omega))) hD (fun H4 s4 => SqL.leq (Same.leq (Same.trans s13 s4)) hs) (fun i o x H4 H5 ho s4 ⟨e, hx⟩ R' hR => ?_) fun H4 s4 hD4 => ?_
        · subst e
          rw [List.getElem?_map, hx] at ho
          cases ho
          have s14 := Same.trans s13 s4
          obtain ⟨k, hk⟩ := hks x (List.mem_of_getElem? hx)
          exact ⟨rfl, _, rfl, _, rfl, a, dx, _, rfl, s14 _ _ q1, a, many, sts, bad, rfl, PlayAt.same s14 hA.play, many, rfl, by omega, x, k, many, rfl, KdAt.leq (Same.leq s14) hk, hR _ (Same.refl _)⟩
        · rw [fm_some] at hD4
          have s14 := Same.trans s13 s4
          refine ⟨D, xs.map (standB many), rfl, SqL.of (by rw [hD4, List.map_map]; rfl), _, rfl, ?_⟩
          rcases hcase with ⟨hb, rfl⟩ | ⟨ns, rfl, hlt, hcase⟩
          · rw [hb]
            exact hend _ s14
          · rw [show ((ns.map iV).map (standB many)).all id = true by
              rw [List.all_map, List.all_map, List.all_eq_true]
              exact fun n hn => stand_ok (hlt n hn)]
            rw [List.length_map] at hf
            refine ⟨_, rfl, a', rfl, ⟨_, SqL.leq (Same.leq s14) hs⟩, fun kn hkn => ?_⟩
            refine dc_it (walk_list (xs := ns.map iV)) (fun i H5 => Same H4 H5 ∧ ∃ L, SetAt H5 kn L ∧ Seen ns i L) ⟨Same.new hkn, [], upd_same, fun n => by simp, .inl ⟨List.nodup_nil, rfl⟩⟩ (fun i H5 _ ⟨s5, _⟩ => SqL.leq (Same.leq (Same.trans s14 s5)) hs) (fun i x H5 H6 hi ⟨s5, L, hL, hS⟩ ⟨e, hx⟩ => ?_) (fun H5 ⟨s5, L, hL, hS⟩ => ?_)
            · subst e
              obtain ⟨n, hn, rfl⟩ := map_get hx
              have hLl : L.length ≤ i := by
                rcases hS.2 with ⟨_, rfl⟩ | ⟨_, z⟩
                · rw [List.length_take]
                  omega
                · omega
              have hS2 := hS.step hn
              rw [List.length_map] at hi
              refine ⟨rfl, _, rfl, _, kN n, rfl, hL, ?_, Same.over s5 hkn, _, ?_, hS2⟩
              · rw [List.length_map, List.length_map]
                exact small1000 (by omega)
              · show (L2.upd H6 kn _) kn = _
                rw [upd_same]
                by_cases hin : n ∈ L
                · rw [if_pos hin, set_old hin]
                · rw [if_neg hin, set_snoc hin]
            · rw [List.length_map] at hS
              obtain ⟨hS1, hS2⟩ := hS
              rw [List.take_length] at hS1 hS2
              have s15 := Same.trans s14 s5
              refine ⟨_, rfl, _, _, rfl, hL, _, rfl, a', _, rfl, .inl (SqL.leq (Same.leq s15) hs), rfl, _, rfl, ?_⟩
              rcases hcase with ⟨hnn, rfl⟩ | ⟨hnn, rfl⟩
              · have hlt2 : L.length < ns.length := hS2.elim (fun z => absurd z.1 hnn) fun z => z.2
                rw [decide_eq_false (show ¬ V.int (((kI L).map fun k => (k, V.bl true)).length : Nat) = V.int ((ns.map iV).length : Nat) by
                  intro e
                  have e := V.int.inj e
                  rw [List.length_map, List.length_map, List.length_map] at e
                  omega)]
                exact hend _ s15
              · have hLn : L = ns := hS2.elim (fun z => z.2) fun z => absurd hnn z.1
                subst hLn
                rw [decide_eq_true (show V.int (((kI L).map fun k => (k, V.bl true)).length : Nat) = V.int ((L.map iV).length : Nat) by
                  rw [List.length_map, List.length_map, List.length_map])]
                refine ⟨_, rfl, kn, _, rfl, DGet.k (k := kN 0) hL, _, rfl, ?_⟩
                rw [set_in]
                by_cases h0 : 0 ∈ L
                · rw [decide_eq_true h0]
                  refine ⟨_, rfl, a, plC K, dx, _, .ref b, rfl, s15 _ _ q1, Pl.cl, Pl.n2, rfl, b, rfl, ⟨_, SqL.of (s15 _ _ q3)⟩, fun D2 hD2 => ?_⟩
                  have hmf : ms.length ≤ 60 := by rw [q4.length_eq]; exact hA.ok.bfew
                  refine lc_fm (walk_list (xs := ms.map iV)) (ms.map fun s => some (V.bl (decide (s ∈ L)))) (by simp) (by rw [List.length_map]; exact Nat.le_of_lt (small1000 (by omega))) hD2 (fun H6 s6 => SqL.of (Same.trans s15 s6 _ _ q3)) (fun i o x H6 H7 ho s6 ⟨e, hx⟩ R' hR => ?_) fun H6 s6 hD6 => ?_
                  · subst e
                    obtain ⟨n, hn, rfl⟩ := map_get hx
                    rw [List.getElem?_map, hn] at ho
                    cases ho
                    refine ⟨rfl, _, rfl, _, rfl, kn, _, rfl, DGet.k (k := kN n) (s6 _ _ hL), ?_⟩
                    rw [set_in]
                    exact hR _ (Same.refl _)
                  · rw [fm_some] at hD6
                    have s16 := Same.trans s15 s6
                    have hL6 := s6 _ _ hL
                    refine ⟨D2, ms.map fun s => decide (s ∈ L), rfl, SqL.of (by rw [hD6, List.map_map]; rfl), _, rfl, ?_⟩
                    rw [any_all q4]
                    have hfin : cloO G bad (some L) = ((L.all fun s => !decide (s ∈ bad)) && L.all fun s => (row G s).all fun m => decide (m.2 ∈ L)) := by
                      show (decide (0 ∈ L) && (L.all fun s => !decide (s ∈ bad)) && L.all fun s => (row G s).all fun m => decide (m.2 ∈ L)) = _
                      rw [decide_eq_true h0, Bool.true_and]
                    rw [hfin] at hend
                    cases hbd : (L.all fun s => !decide (s ∈ bad)) with
                    | false =>
                      rw [hbd] at hend
                      exact hend _ s16
                    | true =>
                      rw [hbd, Bool.true_and] at hend
                      refine ⟨kn, _, hL6, trivial, fun od => ⟨_, rfl, kn, od, rfl, .inl ⟨_, upd_same, fun D3 hD3 => ?_⟩⟩⟩
                      have hfz : (L2.upd H6 kn (.frz od (.dK ((kI L).map fun k => (k, V.bl true))))) kn = some (.frz od (.dK ((kI L).map fun k => (k, V.bl true)))) := upd_same
                      have hkl : ((kI L).map fun k => (k, V.bl true)).length = L.length := by rw [List.length_map, List.length_map]
                      have s0f : Same H (L2.upd H6 kn (.frz od (.dK ((kI L).map fun k => (k, V.bl true))))) := Same.over s16 (Same.free s14 hkn)
                      have s2f : Same H2 (L2.upd H6 kn (.frz od (.dK ((kI L).map fun k => (k, V.bl true))))) := Same.over (Same.trans s3 (Same.trans s4 (Same.trans s5 s6))) (Same.free (Same.trans s3 s4) hkn)
                      have back : ∀ {H9 : Hp}, Same (L2.upd H6 kn (.frz od (.dK ((kI L).map fun k => (k, V.bl true))))) H9 → Same H6 (L2.upd H9 kn (.dK ((kI L).map fun k => (k, V.bl true)))) := fun s9 => Same.unlock hL6 s9
                      generalize L2.upd H6 kn (.frz od (.dK ((kI L).map fun k => (k, V.bl true)))) = HL at hfz s0f s2f hD3 back
                      have hfL := hf
                      refine lc2_out walk_keys (fun i H7 => Same HL H7 ∧ H7 D3 = some (.lst ((gath G L (L.take i)).map V.bl))) ⟨Same.new hD3, upd_same⟩ (fun i H7 _ ⟨s7, _⟩ => s7 _ _ hfz) (fun i x H7 H8 hi ⟨s7, hD7⟩ ⟨e, k, z, hkz, ex⟩ => ?_) fun H7 ⟨s7, hD7⟩ => ?_
                      · subst e ex
                        rw [hkl] at hi
                        have hLi : L[i]? = some L[i] := List.getElem?_eq_getElem hi
                        generalize L[i] = s at hLi
                        have hk : k = kN s := by
                          rw [List.getElem?_map, List.getElem?_map, hLi] at hkz
                          cases hkz
                          rfl
                        subst hk
                        have hsm : s < many := hlt s (List.mem_of_getElem? hLi)
                        obtain ⟨dr, hdr⟩ : ∃ dr, ds[s]? = some dr := ⟨_, List.getElem?_eq_getElem (by rw [hT.len, hGl]; exact hsm)⟩
                        obtain ⟨es, ep, hes, hpe⟩ := hT.rows _ _ hdr
                        have hnd : (es.map (·.1)).Nodup := by rw [paired_keysS hpe]; exact hG.nd s
                        have hixr : atI (ds.map V.ref) (iN s) = some (.ref dr) := atI_nat (j := s) (by rw [List.getElem?_map, hdr]; rfl)
                        have s27 := Same.trans s2f s7
                        refine ⟨rfl, _, rfl, _, rfl, t, _, iN s, .ref dr, rfl, rfl, SqL.of (s27 _ _ hT.lst), hixr, dr, es, ep, rfl, s27 _ _ hes, ?_⟩
                        have hlg := gath_len (L := L) hr60 (L.take i)
                        rw [List.length_take] at hlg
                        refine lc2_in walk_words (fun j H9 => Same HL H9 ∧ H9 D3 = some (.lst ((gath G L (L.take i) ++ ((row G s).take j).map fun m => decide (m.2 ∈ L)).map V.bl))) ⟨s7, by rw [List.take_zero, List.map_nil, List.append_nil]; exact hD7⟩ (fun j H9 _ ⟨s9, _⟩ => Same.trans s2f s9 _ _ hes) (fun j y H9 H10 hj ⟨s9, hD9⟩ ⟨e, en, hen, ey⟩ => ?_) fun H9 ⟨s9, hD9⟩ => ?_
                        · subst e ey
                          obtain ⟨mm, hmm, hk1, hk2, hk3⟩ := paired_get hpe hen
                          have hkv : valV (kvOf es) en.1 = some (iV mm.2) := by rw [kv_at hnd hen, hk3]
                          have s29 := Same.trans s2f s9
                          have hjl := (List.getElem?_eq_some_iff.mp hmm).1
                          have hr60s := hr60 s
                          refine ⟨rfl, _, rfl, _, rfl, t, _, iN s, .ref dr, rfl, rfl, SqL.of (s29 _ _ hT.lst), hixr, _, rfl, dr, es, en.1, iV mm.2, rfl, WdAt.tle (Same.tle s29) hk2, ⟨⟨ep, s29 _ _ hes⟩, fun e he => WdAt.tle (Same.tle s29) (paired_wordsS hpe e he)⟩, hkv, _, rfl, kn, _, rfl, .inl ⟨_, kN mm.2, .inr ⟨od, s9 _ _ hfz⟩, rfl, rfl⟩, _, hD9, ?_, Same.over s9 hD3, ?_⟩
                          · rw [List.length_map, List.length_append, List.length_map, List.length_take]
                            exact Nat.lt_of_lt_of_le (show _ < 4000 by omega) (by decide : 4000 ≤ sizeLine)
                          · rw [set_in, upd_same, take_snoc hmm, List.map_append, List.map_append, List.map_append, List.map_append, List.append_assoc]
                            rfl
                        · rw [Paired.length hpe, List.take_length, ← gath_snoc, ← take_snoc hLi] at hD9
                          exact ⟨s9, hD9⟩
                      · rw [hkl, List.take_length] at hD7
                        have nD : D3 ≠ kn := fun e => by rw [e, hfz] at hD3; cases hD3
                        refine ⟨s7 _ _ hfz, D3, gath G L L, rfl, SqL.of (by rw [upd_ne nD]; exact hD7), ?_⟩
                        rw [gath_all]
                        exact hend _ (Same.trans s16 (back s7))
                · rw [decide_eq_false h0]
                  have e : cloO G bad (some L) = false := by
                    show cloB G bad L = false
                    unfold cloB
                    rw [decide_eq_false h0]
                    rfl
                  rw [e] at hend
                  exact hend _ s15

end
end FF
namespace FF
open PySem PySem.Spec PyProof.Rows L2
/-! ### the heap without the stream's two objects -/
def hid (a c : Addr) (H : Hp) : Hp := fun b => if b = a ∨ b = c then none else H b
theorem hid_le {a c : Addr} {H : Hp} : Same (hid a c H) H := fun b o q => by
  unfold hid at q
  split at q
  · cases q
  · exact q
theorem hid_ne {a c b : Addr} {H : Hp} {o : HO} (h : hid a c H b = some o) : b ≠ a ∧ b ≠ c := by
  unfold hid at h
  split at h
  · cases h
  · rename_i e
    exact ⟨fun q => e (.inl q), fun q => e (.inr q)⟩
theorem hid_of {a c b : Addr} {H : Hp} (h1 : b ≠ a) (h2 : b ≠ c) : hid a c H b = H b := by
  unfold hid
  rw [if_neg (fun q => q.elim h1 h2)]
/-- all but the stream's objects stays -/
abbrev Kp (a c : Addr) (H H' : Hp) : Prop := Same (hid a c H) (hid a c H')
theorem Same.kp {a c : Addr} {H H' : Hp} (s : Same H H') : Kp a c H H' := fun b o q => by
  obtain ⟨h1, h2⟩ := hid_ne q
  rw [hid_of h1 h2] at q ⊢
  exact s b o q
theorem Kp.putA {a c : Addr} {H H' : Hp} {o : HO} (s : Kp a c H H') : Kp a c H (L2.upd H' a o) := fun b u q => by
  obtain ⟨h1, h2⟩ := hid_ne q
  have := s b u q
  rw [hid_of h1 h2] at this ⊢
  rw [upd_ne h1]
  exact this
theorem Kp.putC {a c : Addr} {H H' : Hp} {o : HO} (s : Kp a c H H') : Kp a c H (L2.upd H' c o) := fun b u q => by
  obtain ⟨h1, h2⟩ := hid_ne q
  have := s b u q
  rw [hid_of h1 h2] at this ⊢
  rw [upd_ne h2]
  exact this
theorem Kp.new {a c p : Addr} {H H' : Hp} {o : HO} (s : Kp a c H H') (h : H' p = none) : Kp a c H (L2.upd H' p o) := Same.trans s (Same.kp (Same.new h))
theorem Kp.over {a c p : Addr} {H H' : Hp} {o : HO} (s : Kp a c H H') (h : H p = none) : Kp a c H (L2.upd H' p o) := fun b u q => by
  obtain ⟨h1, h2⟩ := hid_ne q
  have := s b u q
  rw [hid_of h1 h2] at q
  rw [hid_of h1 h2] at this ⊢
  rw [upd_ne (ne_of_none q h)]
  exact this
/-- the stream, n draws made -/
def Strm (H : Hp) (a c : Addr) (n : Nat) : Prop := a ≠ c ∧ ∃ (cells : List Int) (rem acc : Int), H a = some (.lst [.ref c, .int rem, .int n, .int acc]) ∧ H c = some (.lst (cells.map V.int)) ∧ 0 ≤ rem ∧ 0 ≤ acc ∧ acc < 2147483647
theorem Strm.same {H H' : Hp} {a c : Addr} {n : Nat} (s : Same H H') (h : Strm H a c n) : Strm H' a c n := let ⟨e, cells, rem, acc, h1, h2, h3⟩ := h; ⟨e, cells, rem, acc, s _ _ h1, s _ _ h2, h3⟩
theorem Strm.ne {H : Hp} {a c p : Addr} {n : Nat} (h : Strm H a c n) (hp : H p = none) : p ≠ a ∧ p ≠ c := by
  obtain ⟨_, cells, rem, acc, h1, h2, _⟩ := h
  exact ⟨fun e => (by rw [e, h1] at hp; cases hp), fun e => (by rw [e, h2] at hp; cases hp)⟩
/-- new before, new behind -/
theorem Kp.free {a c p : Addr} {H H' : Hp} {n' : Nat} (s : Kp a c H H') (h' : H' p = none) (z : Strm H' a c n') : H p = none := by
  obtain ⟨h1, h2⟩ := z.ne h'
  cases e : H p with
  | none => rfl
  | some o =>
    have := s p o (by rw [hid_of h1 h2]; exact e)
    rw [hid_of h1 h2, h'] at this
    cases this
section
variable {w : World} {K : PySem.W.Frag} {mg : Str → Option Value} {base : Heap}
theorem ints_dp {H : Hp} {p : Addr} {W : List Int} (h : SqL K H p (W.map V.int)) : Dp K H (.ref p) (.list (W.map PyData.int)) := by
  refine .lst h ?_
  clear h
  induction W with
  | nil => exact .nil
  | cons n W ih => exact .cons (.int n) ih
theorem ints_shaped (W : List Int) : SeqAt.shaped (.list (W.map PyData.int)) = true := shaped_list (n := 0) (by decide) fun d hd => by
  obtain ⟨n, _, rfl⟩ := List.mem_map.mp hd
  simp [PyData.canLay0, PyData.depth]
theorem ints_nil (W : List Int) : PyData.eqv (.list (W.map PyData.int)) (.list []) = W.isEmpty := by
  simp only [PyData.eqv]
  rw [eqvAll_nil]
  cases W <;> rfl
theorem seq_nat {d n : Nat} (h : d < n) : seqIndex? (d : Int) n = some d := by
  unfold seqIndex?
  have e : (if (d : Int) < 0 then (d : Int) + n else d) = d := if_neg (by omega)
  simp only [e]
  rw [if_pos (by simp; omega)]
  rfl
def sp_draw (K : PySem.W.Frag) (w : World) : Sp := fun vs H Q _ => ∃ (a c : Addr) (n many : Nat), vs = [.ref a, iV many] ∧ Strm H a c n ∧ 1 ≤ many ∧ many ≤ 1000000 ∧ n ≤ 1000000 ∧ ∀ (d : Nat) (H' : Hp), d < many → Kp a c H H' → Strm H' a c (n + 1) → Q (iV d) H'

theorem sc_draw : FnScope ["_law_stream", "_law_many", "_law_cell", "_law_digit", "_law_mixed_here"] ["_law_stream", "_law_many"] (defScope s__law_draw) := ⟨rfl, rfl, rfl, by decide +kernel, rfl, by decide +kernel, by decide +kernel⟩
theorem ok_draw (T : Tx K mg)  (D : Df K mg "_law_draw" s__law_draw)  : Cal w K mg base CX0 1 "_law_draw" ["_law_stream", "_law_many"] (sp_draw K w) := by
  have nd := sc_draw.nd
  refine D.ok (N := ["_law_stream", "_law_many", "_law_cell", "_law_digit", "_law_mixed_here"]) sc_draw (fun vs H Q E h => ?_) (fun _ _ _ _ _ _ us hl => match us, hl with | [_, _], _ => rfl) (fun cdv A outer s H vs Q E hr h => ?_)
  · obtain ⟨a, c, n, many, rfl, hS, h1, h2, h3, q⟩ := h
    rfl
  · have hu := hu_of hr
    obtain ⟨a, c, n, many, rfl, hS, h1, h2, h3, q⟩ := h
    refine ⟨_, PSs.nox (pss_cons (ps_asg (pe_op op_add (pe_ix ix_list (pv 0) pe_int (fun _ _ => rfl)) pe_int) (pg_sub (pv 0) pe_int set_list))
      (pss_cons (ps_while PassesOwn.never (PW.pt (pw_and (pt_cmpR op_eq (pe_ix ix_list (pv 0) pe_int (fun _ _ => rfl)) pe_int (nomark _)) (pw_and1 (pt_cmpR (op_neD hr.units) (pe_ix ix_list (pv 0) pe_int (fun _ _ => rfl)) (pe_lst pa_nil) (nomark _))))) (pss_cons (ps_set (i := 2) nd rfl (by first | exact Or.inl rfl | exact Or.inr rfl) (pe_bm PySem.F.plainAttrs_list PySem.F.slot_list_pop PySem.F.type_list_pop mt_popAt (pe_ix ix_list (pv 0) pe_int (fun _ _ => rfl)) (pa_cons pe_int pa_nil)))
      (pss_cons (ps_asg (pe_op op_mod (pe_callTy call_int1 (by rfl) T.n_int (by decide +kernel) (pa_cons (pe_op op_add (pe_op op_add (pe_op op_mul (pe_ix ix_list (pv 0) pe_int (fun _ _ => rfl)) pe_int) (pv 2)) pe_int) pa_nil)) pe_int) (pg_sub (pv 0) pe_int set_list))
      (pss_one (ps_asg (pe_ifExp (pt_cmpR op_ge (pv 2) (pe_op op_pow pe_int pe_int) (nomark _)) (pv 2) pe_int) (pg_sub (pv 0) pe_int set_list))))))
      (pss_cons (ps_if (pt_cmpR op_gt (pe_ix ix_list (pv 0) pe_int (fun _ _ => rfl)) pe_int (nomark _)) (pss_cons (ps_set (i := 3) nd rfl (by first | exact Or.inl rfl | exact Or.inr rfl) (pe_op op_mod (pe_callTy call_int1 (by rfl) T.n_int (by decide +kernel) (pa_cons (pe_ix ix_list (pv 0) pe_int (fun _ _ => rfl)) pa_nil)) (pv 1)))
      (pss_cons (ps_asg (pe_op op_fdiv (pe_ix ix_list (pv 0) pe_int (fun _ _ => rfl)) (pv 1)) (pg_sub (pv 0) pe_int set_list))
      (pss_one (ps_ret (pv 3))))) pss_nil)
      (pss_cons (ps_set (i := 4) nd rfl (by first | exact Or.inl rfl | exact Or.inr rfl) (pe_op op_mod (pe_callTy call_int1 (by rfl) T.n_int (by decide +kernel) (pa_cons (pe_op op_pow (pe_op op_add (pe_op op_add (pe_ix ix_list (pv 0) pe_int (fun _ _ => rfl)) (pe_op op_mul pe_int (pe_ix ix_list (pv 0) pe_int (fun _ _ => rfl)))) pe_int) pe_int) pa_nil)) pe_int))
      (pss_one (ps_ret (pe_op op_mod (pe_op op_mod (pe_callTy call_int1 (by rfl) T.n_int (by decide +kernel) (pa_cons (pe_op op_pow (pe_op op_add (pe_op op_add (pe_op op_mul (pv 4) pe_int) (pe_op op_mul pe_int (pe_ix ix_list (pv 0) pe_int (fun _ _ => rfl)))) pe_int) pe_int) pa_nil)) pe_int) (pv 1)))))))), ?_⟩
    obtain ⟨hac, cells, rem, acc, ha, hc, hr0, hacc0, hacc⟩ := hS
    refine ⟨_, rfl, a, _, 2, iV n, rfl, rfl, SqL.of ha, atI_nat (j := 2) rfl, _, _, rfl, rfl, _, rfl, a, _, 2, 2, rfl, rfl, ha, rfl, ?_⟩
    rw [show ([V.ref c, V.int rem, V.int ↑n, V.int acc].set 2 ((fun i j => V.int (i + j)) (↑n) 1)) = [.ref c, .int rem, iV (n + 1), .int acc] from rfl]
    have k1 : Kp a c H (L2.upd H a (.lst [.ref c, .int rem, iV (n + 1), .int acc])) := Kp.putA (Same.refl _)
    have ha1 : (L2.upd H a (.lst [.ref c, .int rem, iV (n + 1), .int acc])) a = some (.lst [.ref c, .int rem, iV (n + 1), .int acc]) := upd_same
    have hc1 : (L2.upd H a (.lst [.ref c, .int rem, iV (n + 1), .int acc])) c = some (.lst (cells.map V.int)) := by rw [upd_ne (Ne.symm hac)]; exact hc
    have fin : ∀ (H2 : Hp) (cells2 : List Int) (rem2 acc2 : Int) (d : Nat), d < many → Kp a c H H2 → H2 a = some (.lst [.ref c, .int rem2, iV (n + 1), .int acc2]) → H2 c = some (.lst (cells2.map V.int)) → 0 ≤ rem2 → 0 ≤ acc2 → acc2 < 2147483647 → Q (iV d) H2 := fun H2 cells2 rem2 acc2 d hd hk z1 z2 z3 z4 z5 => q d H2 hd hk ⟨hac, cells2, rem2, acc2, z1, z2, z3, z4, z5⟩
    generalize L2.upd H a (.lst [.ref c, .int rem, iV (n + 1), .int acc]) = H1 at k1 ha1 hc1
    refine ⟨fun m σ H2 => ∃ (cells : List Int) (rem acc : Int) (x2 x3 x4 : Option V), σ = [some (.ref a), some (iV many), x2, x3, x4] ∧ Kp a c H H2 ∧ H2 a = some (.lst [.ref c, .int rem, iV (n + 1), .int acc]) ∧ H2 c = some (.lst (cells.map V.int)) ∧ 0 ≤ rem ∧ 0 ≤ acc ∧ acc < 2147483647 ∧ cells.length = m,
      ⟨_, cells, rem, acc, _, _, _, rfl, k1, ha1, hc1, hr0, hacc0, hacc, rfl⟩, ?_⟩
    clear ha1 hc1 hr0 hacc0 hacc ha hc k1
    rintro m σ H2 ⟨cells, rem, acc, x2, x3, x4, rfl, k2, ha, hc, hr0, hacc0, hacc, rfl⟩
    refine ⟨_, rfl, a, _, 1, .int rem, rfl, rfl, SqL.of ha, atI_nat (j := 1) rfl, rfl, _, rfl, ?_⟩
    have rest : ∀ {H3 : Hp}, Kp a c H H3 → H3 a = some (.lst [.ref c, .int rem, iV (n + 1), .int acc]) → H3 c = some (.lst (cells.map V.int)) → True := fun _ _ _ => trivial
    by_cases h0 : rem = 0
    · subst h0
      rw [decide_eq_true (rfl : V.int 0 = V.int 0)]
      refine ⟨_, rfl, a, _, 0, .ref c, rfl, rfl, SqL.of ha, atI_nat (j := 0) rfl, (by decide : 0 ≤ sizeLine), fun pe hpe => ?_⟩
      have k3 : Kp a c H (L2.upd H2 pe (.lst [])) := Kp.new k2 hpe
      have ha3 := (Same.new hpe (o := .lst [])) _ _ ha
      have hc3 := (Same.new hpe (o := .lst [])) _ _ hc
      have hpe3 : (L2.upd H2 pe (.lst [])) pe = some (.lst []) := upd_same
      generalize L2.upd H2 pe (.lst []) = H3 at k3 ha3 hc3 hpe3
      refine ⟨_, .list [], ints_dp (SqL.of hc3), .lst (SqL.of hpe3) .nil, ints_shaped _, shaped_nil, _, rfl, ?_⟩
      rw [ints_nil]
      cases cells with
      | nil =>
        have hmp : (0 : Int) < many := by omega
        refine ⟨_, rfl, a, _, 1, .int 0, rfl, rfl, SqL.of ha3, atI_nat (j := 1) rfl, _, _, rfl, rfl, _, rfl, ?_⟩
        by_cases hpos : (0 : Int) < 0
        · rw [decide_eq_true hpos]
          have hd1 := Int.emod_nonneg 0 (show (many : Int) ≠ 0 by omega)
          have hd2 := Int.emod_lt_of_pos 0 hmp
          refine ⟨_, rfl, a, _, 1, .int 0, rfl, rfl, SqL.of ha3, atI_nat (j := 1) rfl, .inl ⟨_, rfl, _, rfl, _, _, rfl, rfl, hmp, ?_⟩⟩
          refine ⟨_, rfl, a, _, 1, .int 0, rfl, rfl, SqL.of ha3, atI_nat (j := 1) rfl, _, rfl, _, _, rfl, rfl, ⟨hmp, by omega⟩, _, rfl, a, _, 1, 1, rfl, rfl, ha3, rfl, _, rfl, ?_⟩
          have e9 : 0 % (many : Int) = ((0 % (many : Int)).toNat : Int) := (Int.toNat_of_nonneg hd1).symm
          show Q (.int (0 % (many : Int))) _
          rw [e9]
          exact fin _ [] (0 / (many : Int)) acc _ (by omega) (Kp.putA k3) upd_same (by rw [upd_ne (Ne.symm hac)]; exact hc3) (Int.ediv_nonneg (by omega) (by omega)) hacc0 hacc
        · rw [decide_eq_false hpos]
          refine ⟨_, rfl, a, _, 3, .int acc, rfl, rfl, SqL.of ha3, atI_nat (j := 3) rfl, _, rfl, a, _, 2, iV (n + 1), rfl, rfl, SqL.of ha3, atI_nat (j := 2) rfl, _, _, rfl, rfl, .inl (by decide), _, _, rfl, rfl, _, _, rfl, rfl, _, _, rfl, rfl, ⟨by decide, by decide, by omega⟩, .inl ⟨_, rfl, _, _, rfl, rfl, (by decide : (0 : Int) < 2147483629), ?_⟩⟩
          have hm1 := Int.emod_nonneg ((acc + 7919 * ((n + 1 : Nat) : Int) + 104729) ^ (5 : Int).toNat) (show (2147483629 : Int) ≠ 0 by decide)
          have hm2 := Int.emod_lt_of_pos ((acc + 7919 * ((n + 1 : Nat) : Int) + 104729) ^ (5 : Int).toNat) (show (0 : Int) < 2147483629 by decide)
          refine ⟨_, rfl, _, _, rfl, rfl, .inr (by decide), _, rfl, a, _, 2, iV (n + 1), rfl, rfl, SqL.of ha3, atI_nat (j := 2) rfl, _, _, rfl, rfl, .inl (by decide), _, _, rfl, rfl, _, _, rfl, rfl, _, _, rfl, rfl, ⟨by decide, by decide, ?_⟩, .inl ⟨_, rfl, _, _, rfl, rfl, (by decide : (0 : Int) < 1000000007), _, rfl, _, _, rfl, rfl, hmp, ?_⟩⟩
          · generalize (acc + 7919 * ((n + 1 : Nat) : Int) + 104729) ^ (5 : Int).toNat % 2147483629 = mm at hm1 hm2
            omega
          · generalize (acc + 7919 * ((n + 1 : Nat) : Int) + 104729) ^ (5 : Int).toNat % 2147483629 = mm
            generalize (mm * 48271 + 30011 * ((n + 1 : Nat) : Int) + 29) ^ (3 : Int).toNat % 1000000007 = m2
            have hd1 := Int.emod_nonneg m2 (show (many : Int) ≠ 0 by omega)
            have hd2 := Int.emod_lt_of_pos m2 hmp
            have e9 : m2 % (many : Int) = ((m2 % (many : Int)).toNat : Int) := (Int.toNat_of_nonneg hd1).symm
            show Q (.int (m2 % (many : Int))) _
            rw [e9]
            exact fin _ [] 0 acc _ (by omega) k3 ha3 hc3 hr0 hacc0 hacc
      | cons x r =>
        refine ⟨fun σ H2 => ∃ (rem acc : Int) (x2 x3 x4 : Option V), σ = [some (.ref a), some (iV many), x2, x3, x4] ∧ Kp a c H H2 ∧ H2 a = some (.lst [.ref c, .int rem, iV (n + 1), .int acc]) ∧ H2 c = some (.lst (r.map V.int)) ∧ 0 ≤ rem ∧ 0 ≤ acc ∧ acc < 2147483647, fun σ' H' ⟨rem, acc, x2, x3, x4, e, z1, z2, z3, z4, z5, z6⟩ => ⟨_, Nat.lt_succ_self _, r, rem, acc, x2, x3, x4, e, z1, z2, z3, z4, z5, z6, rfl⟩, ?_⟩
        refine ⟨_, rfl, a, _, 0, .ref c, rfl, rfl, SqL.of ha3, atI_nat (j := 0) rfl, .inl ⟨rfl, _, SqL.of hc3⟩, c, _, 0, 0, .int x, rfl, rfl, hc3, by decide, by decide, seq_nat (d := 0) (by simp), rfl, ?_⟩
        have k4 : Kp a c H (L2.upd H3 c (.lst (r.map V.int))) := Kp.putC k3
        have ha4 : (L2.upd H3 c (.lst (r.map V.int))) a = some (.lst [.ref c, .int 0, iV (n + 1), .int acc]) := by rw [upd_ne hac]; exact ha3
        have hc4 : (L2.upd H3 c (.lst (r.map V.int))) c = some (.lst (r.map V.int)) := upd_same
        have e1 : ((x :: r).map V.int).eraseIdx 0 = r.map V.int := rfl
        rw [e1]
        generalize L2.upd H3 c (.lst (r.map V.int)) = H4 at k4 ha4 hc4
        refine ⟨_, rfl, a, _, 3, .int acc, rfl, rfl, SqL.of ha4, atI_nat (j := 3) rfl, _, _, rfl, rfl, .inr (by decide), _, rfl, _, _, rfl, rfl, _, _, rfl, rfl, .inl ⟨_, rfl, _, _, rfl, rfl, (by decide : (0 : Int) < 2147483647), _, rfl, a, _, 3, 3, rfl, rfl, ha4, rfl, ?_⟩⟩
        have e2 : (acc * 8191 + x + 3) % 2147483647 < 2147483647 := Int.emod_lt_of_pos _ (by decide)
        have e3 : 0 ≤ (acc * 8191 + x + 3) % 2147483647 := Int.emod_nonneg _ (by decide)
        rw [show ([V.ref c, V.int 0, iV (n + 1), V.int acc].set 3 ((fun i j => V.int (i % j)) ((acc * 8191 + x) + 3) 2147483647)) = [.ref c, .int 0, iV (n + 1), .int ((acc * 8191 + x + 3) % 2147483647)] from rfl]
        generalize (acc * 8191 + x + 3) % 2147483647 = acc2 at e2 e3
        have k5 : Kp a c H (L2.upd H4 a (.lst [.ref c, .int 0, iV (n + 1), .int acc2])) := Kp.putA k4
        have ha5 : (L2.upd H4 a (.lst [.ref c, .int 0, iV (n + 1), .int acc2])) a = some (.lst [.ref c, .int 0, iV (n + 1), .int acc2]) := upd_same
        have hc5 : (L2.upd H4 a (.lst [.ref c, .int 0, iV (n + 1), .int acc2])) c = some (.lst (r.map V.int)) := by rw [upd_ne (Ne.symm hac)]; exact hc4
        generalize L2.upd H4 a (.lst [.ref c, .int 0, iV (n + 1), .int acc2]) = H5 at k5 ha5 hc5
        refine ⟨_, rfl, _, _, rfl, rfl, ⟨by decide, by decide, by decide⟩, _, _, rfl, rfl, _, rfl, ?_⟩
        by_cases hx : (10 : Int) ^ (18 : Int).toNat ≤ x
        · rw [decide_eq_true hx]
          have hx0 : 0 ≤ x := Int.le_trans (by decide) hx
          refine ⟨_, rfl, _, rfl, a, _, 1, 1, rfl, rfl, ha5, rfl, x, acc2, _, _, _, rfl, Kp.putA k5, upd_same, ?_, hx0, e3, e2⟩
          rw [upd_ne (Ne.symm hac)]
          exact hc5
        · rw [decide_eq_false hx]
          refine ⟨_, rfl, a, _, 1, 1, rfl, rfl, ha5, rfl, 0, acc2, _, _, _, rfl, Kp.putA k5, upd_same, ?_, Int.le_refl _, e3, e2⟩
          rw [upd_ne (Ne.symm hac)]
          exact hc5
    · rw [decide_eq_false (fun e => h0 (V.int.inj e))]
      have hmp : (0 : Int) < many := by omega
      refine ⟨_, rfl, a, _, 1, .int rem, rfl, rfl, SqL.of ha, atI_nat (j := 1) rfl, _, _, rfl, rfl, _, rfl, ?_⟩
      by_cases hpos : (0 : Int) < rem
      · rw [decide_eq_true hpos]
        have hd1 := Int.emod_nonneg rem (show (many : Int) ≠ 0 by omega)
        have hd2 := Int.emod_lt_of_pos rem hmp
        refine ⟨_, rfl, a, _, 1, .int rem, rfl, rfl, SqL.of ha, atI_nat (j := 1) rfl, .inl ⟨_, rfl, _, rfl, _, _, rfl, rfl, hmp, ?_⟩⟩
        refine ⟨_, rfl, a, _, 1, .int rem, rfl, rfl, SqL.of ha, atI_nat (j := 1) rfl, _, rfl, _, _, rfl, rfl, ⟨hmp, by omega⟩, _, rfl, a, _, 1, 1, rfl, rfl, ha, rfl, _, rfl, ?_⟩
        have e9 : rem % (many : Int) = ((rem % (many : Int)).toNat : Int) := (Int.toNat_of_nonneg hd1).symm
        show Q (.int (rem % (many : Int))) _
        rw [e9]
        exact fin _ cells (rem / (many : Int)) acc _ (by omega) (Kp.putA k2) upd_same (by rw [upd_ne (Ne.symm hac)]; exact hc) (Int.ediv_nonneg (by omega) (by omega)) hacc0 hacc
      · rw [decide_eq_false hpos]
        refine ⟨_, rfl, a, _, 3, .int acc, rfl, rfl, SqL.of ha, atI_nat (j := 3) rfl, _, rfl, a, _, 2, iV (n + 1), rfl, rfl, SqL.of ha, atI_nat (j := 2) rfl, _, _, rfl, rfl, .inl (by decide), _, _, rfl, rfl, _, _, rfl, rfl, _, _, rfl, rfl, ⟨by decide, by decide, by omega⟩, .inl ⟨_, rfl, _, _, rfl, rfl, (by decide : (0 : Int) < 2147483629), ?_⟩⟩
        have hm1 := Int.emod_nonneg ((acc + 7919 * ((n + 1 : Nat) : Int) + 104729) ^ (5 : Int).toNat) (show (2147483629 : Int) ≠ 0 by decide)
        have hm2 := Int.emod_lt_of_pos ((acc + 7919 * ((n + 1 : Nat) : Int) + 104729) ^ (5 : Int).toNat) (show (0 : Int) < 2147483629 by decide)
        refine ⟨_, rfl, _, _, rfl, rfl, .inr (by decide), _, rfl, a, _, 2, iV (n + 1), rfl, rfl, SqL.of ha, atI_nat (j := 2) rfl, _, _, rfl, rfl, .inl (by decide), _, _, rfl, rfl, _, _, rfl, rfl, _, _, rfl, rfl, ⟨by decide, by decide, ?_⟩, .inl ⟨_, rfl, _, _, rfl, rfl, (by decide : (0 : Int) < 1000000007), _, rfl, _, _, rfl, rfl, hmp, ?_⟩⟩
        · generalize (acc + 7919 * ((n + 1 : Nat) : Int) + 104729) ^ (5 : Int).toNat % 2147483629 = mm at hm1 hm2
          omega
        · generalize (acc + 7919 * ((n + 1 : Nat) : Int) + 104729) ^ (5 : Int).toNat % 2147483629 = mm
          generalize (mm * 48271 + 30011 * ((n + 1 : Nat) : Int) + 29) ^ (3 : Int).toNat % 1000000007 = m2
          have hd1 := Int.emod_nonneg m2 (show (many : Int) ≠ 0 by omega)
          have hd2 := Int.emod_lt_of_pos m2 hmp
          have e9 : m2 % (many : Int) = ((m2 % (many : Int)).toNat : Int) := (Int.toNat_of_nonneg hd1).symm
          show Q (.int (m2 % (many : Int))) _
          rw [e9]
          exact fin _ cells rem acc _ (by omega) k2 ha hc hr0 hacc0 hacc

end
end FF
namespace FF
open PySem PySem.Spec PyProof.Rows L2
def rLenSeq (K : PySem.W.Frag) : List V → Hp → VK → Prop := fun xs H Q => ∃ p ys, xs = [.ref p] ∧ (SqL K H p ys ∨ SqT K H p ys) ∧ Q (.int ys.length) H
section
variable {w : World} {K : PySem.W.Frag} {mg : Str → Option Value} {base : Heap}
theorem SqL.hid {H : Hp} {a c l : Addr} {xs : List V} (h : SqL K (hid a c H) l xs) : SqL K H l xs := SqL.leq (Same.leq hid_le) h
theorem erase_perm {α : Type} : ∀ {l : List α} {i : Nat} {x : α}, l[i]? = some x → (x :: l.eraseIdx i).Perm l
  | [], i, x, h => by simp at h
  | y :: l, 0, x, h => by
    cases h
    exact .refl _
  | y :: l, i + 1, x, h => by
    have := erase_perm (l := l) (i := i) (x := x) (by simpa using h)
    show (x :: y :: l.eraseIdx i).Perm (y :: l)
    exact (List.Perm.swap y x _).trans (this.cons y)
def sp_start (K : PySem.W.Frag) (w : World) : Sp := fun vs H Q _ => ∃ (s : Addr) (ns : List Int), vs = [.ref s] ∧ SqL K H s (ns.map V.int) ∧ ∀ (a c : Addr) (H' : Hp), Same H H' → H a = none → H c = none → Strm H' a c 0 → Q (.ref a) H'
def sp_pick (K : PySem.W.Frag) (w : World) : Sp := fun vs H Q _ => ∃ (a c l : Addr) (n : Nat) (xs : List V), vs = [.ref a, .ref l] ∧ Strm H a c n ∧ SqL K (hid a c H) l xs ∧ 1 ≤ xs.length ∧ xs.length ≤ 60 ∧ n ≤ 1000000 ∧ ∀ (d : Nat) (v : V) (H' : Hp), xs[d]? = some v → Kp a c H H' → Strm H' a c (n + 1) → Q v H'
def sp_mixed (K : PySem.W.Frag) (w : World) : Sp := fun vs H Q _ => ∃ (a c l : Addr) (n : Nat) (xs : List V), vs = [.ref a, .ref l] ∧ Strm H a c n ∧ SqL K (hid a c H) l xs ∧ xs.length ≤ 60 ∧ n + xs.length ≤ 1000000 ∧
  ∀ (ys : List V) (p : Addr) (H' : Hp), ys.Perm xs → H p = none → H' p = some (.lst ys) → Kp a c H H' → Strm H' a c (n + xs.length) → Q (.ref p) H'

theorem sc_start : FnScope ["_law_script"] ["_law_script"] (defScope s__law_start) := ⟨rfl, rfl, rfl, by decide +kernel, rfl, by decide +kernel, by decide +kernel⟩
theorem ok_start (T : Tx K mg)  (D : Df K mg "_law_start" s__law_start)  : Cal w K mg base CX0 1 "_law_start" ["_law_script"] (sp_start K w) := by
  have nd := sc_start.nd
  refine D.ok (N := ["_law_script"]) sc_start (fun vs H Q E h => ?_) (fun _ _ _ _ _ _ us hl => match us, hl with | [_], _ => rfl) (fun cdv A outer s H vs Q E hr h => ?_)
  · obtain ⟨sa, ns, rfl, hs, q⟩ := h
    rfl
  · have hu := hu_of hr
    obtain ⟨sa, ns, rfl, hs, q⟩ := h
    refine ⟨_, PSs.nox (pss_one (ps_ret (pe_lst (pa_cons (pe_callTy call_list_of (by rfl) T.n_list (by decide +kernel) (pa_cons (pv 0) pa_nil)) (pa_cons pe_int (pa_cons pe_int (pa_cons pe_int pa_nil))))))), ?_⟩
    refine ⟨_, rfl, sa, _, rfl, .inl hs, fun c hc => ⟨(by decide : 4 ≤ sizeLine), fun a ha => ?_⟩⟩
    have hac : a ≠ c := fun e => by
      rw [e, upd_same] at ha
      cases ha
    refine q a c _ (Same.then (Same.new hc) ha) (Same.free (Same.new hc) ha) hc ⟨hac, ns, 0, 11, upd_same, ?_, by decide, by decide, by decide⟩
    rw [upd_ne (Ne.symm hac), upd_same]

theorem sc_pick : FnScope ["_law_stream", "_law_some"] ["_law_stream", "_law_some"] (defScope s__law_pick) := ⟨rfl, rfl, rfl, by decide +kernel, rfl, by decide +kernel, by decide +kernel⟩
theorem ok_pick (T : Tx K mg)  (D : Df K mg "_law_pick" s__law_pick) (c__law_draw : Cal w K mg base CX0 1 "_law_draw" ["_law_stream", "_law_many"] (sp_draw K w)) : Cal w K mg base CX0 2 "_law_pick" ["_law_stream", "_law_some"] (sp_pick K w) := by
  have nd := sc_pick.nd
  refine D.ok (N := ["_law_stream", "_law_some"]) sc_pick (fun vs H Q E h => ?_) (fun _ _ _ _ _ _ us hl => match us, hl with | [_, _], _ => rfl) (fun cdv A outer s H vs Q E hr h => ?_)
  · obtain ⟨a, c, l, n, xs, rfl, hS, hs, h1, h60, hn, q⟩ := h
    rfl
  · have hu := hu_of hr
    obtain ⟨a, c, l, n, xs, rfl, hS, hs, h1, h60, hn, q⟩ := h
    refine ⟨_, PSs.nox (pss_one (ps_ret (pe_ix ix_list (pv 1) (pe_cal rfl c__law_draw (hr.mono (by first | decide | (simp only [Nat.add_eq]; omega))) pass0 (pa_cons (pv 0) (pa_cons (pe_callB call_len_seq (by rfl) T.n_len (by decide +kernel) (pa_cons (pv 1) pa_nil)) pa_nil))) (fun _ _ => rfl)))), ?_⟩
    refine ⟨_, rfl, _, rfl, _, rfl, l, xs, rfl, .inl (SqL.hid hs), a, c, n, xs.length, rfl, hS, h1, by omega, hn, fun d H' hd hk hS' => ?_⟩
    have hs' : SqL K (hid a c H') l xs := SqL.leq (Same.leq hk) hs
    exact ⟨l, xs, _, xs[d], rfl, rfl, SqL.hid hs', atI_nat (j := d) (List.getElem?_eq_getElem hd), q d _ H' (List.getElem?_eq_getElem hd) hk hS'⟩

theorem sc_mixed : FnScope ["_law_stream", "_law_some", "_law_left", "_law_k"] ["_law_stream", "_law_some"] (defScope s__law_mixed) := ⟨rfl, rfl, rfl, by decide +kernel, rfl, by decide +kernel, by decide +kernel⟩
theorem ok_mixed (T : Tx K mg)  (D : Df K mg "_law_mixed" s__law_mixed) (c__law_draw : Cal w K mg base CX0 1 "_law_draw" ["_law_stream", "_law_many"] (sp_draw K w)) : Cal w K mg base CX0 2 "_law_mixed" ["_law_stream", "_law_some"] (sp_mixed K w) := by
  have nd := sc_mixed.nd
  refine D.ok (N := ["_law_stream", "_law_some", "_law_left", "_law_k"]) sc_mixed (fun vs H Q E h => ?_) (fun _ _ _ _ _ _ us hl => match us, hl with | [_, _], _ => rfl) (fun cdv A outer s H vs Q E hr h => ?_)
  · obtain ⟨a, c, l, n, xs, rfl, hS, hs, h60, hn, q⟩ := h
    rfl
  · have hu := hu_of hr
    obtain ⟨a, c, l, n, xs, rfl, hS, hs, h60, hn, q⟩ := h
    refine ⟨_, PSs.nox (pss_cons (ps_set (i := 2) nd rfl (by first | exact Or.inl rfl | exact Or.inr rfl) (pe_callTy call_list_of (by rfl) T.n_list (by decide +kernel) (pa_cons (pv 1) pa_nil)))
      (pss_one (ps_ret (pe_lc (own := [("_law_k", 3)]) (by rfl) nd (pi_range1 (by rfl) T.n_range (pa_cons (pe_callB call_len_seq (by rfl) T.n_len (by decide +kernel) (pa_cons (pv 2) pa_nil)) pa_nil)) (blkOk_by (own := [("_law_k", 3)]) (N := ["_law_stream", "_law_some", "_law_left", "_law_k"]) (sc := defScope s__law_mixed) (by decide +kernel)) (fun _ _ _ _ _ => (pg_name (i := 3) nd rfl (by first | exact Or.inl rfl | exact Or.inr rfl))) (fun _ _ _ _ _ => pts_nil) (fun _ _ _ _ _ => (show PE _ _ (tBM K _ _ _ _) from pe_bm PySem.F.plainAttrs_list PySem.F.slot_list_pop PySem.F.type_list_pop mt_popAt (pv 2) (pa_cons (pe_cal rfl c__law_draw (hr.mono (by first | decide | (simp only [Nat.add_eq]; omega))) pass0 (pa_cons (pv 0) (pa_cons (pe_callB (show CallR _ _ (rLenSeq K) from call_len_seq) (by rfl) T.n_len (by decide +kernel) (pa_cons (pv 2) pa_nil)) pa_nil))) pa_nil))))))), ?_⟩
    refine ⟨_, rfl, l, xs, rfl, .inl (SqL.hid hs), fun lf hlf => ?_⟩
    have hlf1 : (L2.upd H lf (.lst xs)) lf = some (.lst xs) := upd_same
    have k1 : Kp a c H (L2.upd H lf (.lst xs)) := Kp.new (Same.refl _) hlf
    have hS1 := Strm.same (Same.new hlf (o := .lst xs)) hS
    generalize L2.upd H lf (.lst xs) = H1 at hlf1 k1 hS1
    obtain ⟨nfa, nfc⟩ := hS.ne hlf
    refine ⟨_, rfl, lf, xs, rfl, .inl (SqL.of hlf1), xs.length, rfl, by omega, by omega, fun D hD => ?_⟩
    obtain ⟨nDa, nDc⟩ := hS1.ne hD
    have hD0 : H D = none := k1.free hD hS1
    have nDl : D ≠ lf := fun e => by
      rw [e, hlf1] at hD
      cases hD
    refine lc_it walk_range (fun i H2 => ∃ rest zs, H2 D = some (.lst zs) ∧ H2 lf = some (.lst rest) ∧ (zs ++ rest).Perm xs ∧ zs.length = i ∧ Strm H2 a c (n + i) ∧ Kp a c H H2) ⟨xs, [], upd_same, by rw [upd_ne (Ne.symm nDl)]; exact hlf1, List.Perm.refl _, rfl, Strm.same (Same.new hD) hS1, Kp.new k1 hD⟩ (fun _ _ _ _ => trivial) (fun i x H2 H3 hi ⟨rest, zs, z1, z2, z3, z4, z5, z6⟩ ⟨e, ex⟩ => ?_) fun H2 ⟨rest, zs, z1, z2, z3, z4, z5, z6⟩ => ?_
    · subst e
      rw [Int.toNat_natCast] at hi
      have hlen := z3.length_eq
      rw [List.length_append] at hlen
      have hrl : 1 ≤ rest.length := by omega
      refine ⟨rfl, _, rfl, .inl ⟨rfl, _, SqL.of z2⟩, _, rfl, _, rfl, lf, rest, rfl, .inl (SqL.of z2), a, c, n + i, rest.length, rfl, z5, hrl, by omega, by omega, fun d H4 hd hk hS4 => ?_⟩
      have z2' : H4 lf = some (.lst rest) := hid_le _ _ (hk lf _ (by rw [hid_of nfa nfc]; exact z2))
      have z1' : H4 D = some (.lst zs) := hid_le _ _ (hk D _ (by rw [hid_of nDa nDc]; exact z1))
      obtain ⟨y, hy⟩ : ∃ y, rest[d]? = some y := ⟨_, List.getElem?_eq_getElem hd⟩
      refine ⟨lf, rest, _, d, y, rfl, rfl, z2', by omega, by omega, seq_nat hd, hy, zs, by rw [upd_ne nDl]; exact z1', small1000 (by omega), rest.eraseIdx d, zs ++ [y], upd_same, by rw [upd_ne (Ne.symm nDl), upd_same], ?_, by rw [List.length_append, z4]; rfl, ?_, ?_⟩
      · rw [List.append_assoc]
        refine (List.Perm.append_left zs ?_).trans z3
        exact erase_perm hy
      · obtain ⟨e0, cells, rem, acc, h1, h2, h3⟩ := hS4
        exact ⟨e0, cells, rem, acc, by rw [upd_ne (Ne.symm nDa), upd_ne (Ne.symm nfa)]; exact h1, by rw [upd_ne (Ne.symm nDc), upd_ne (Ne.symm nfc)]; exact h2, h3⟩
      · exact Kp.over (Kp.over (Same.trans z6 hk) hlf) hD0
    · rw [Int.toNat_natCast] at z4 z5
      have hlen := z3.length_eq
      rw [List.length_append] at hlen
      have hr0 : rest = [] := List.eq_nil_of_length_eq_zero (by omega)
      subst hr0
      rw [List.append_nil] at z3
      exact q zs D H2 z3 hD0 z1 z6 z5

end
end FF
namespace FF
open PySem PySem.Spec PyProof.Rows L2
section
variable {w : World} {K : PySem.W.Frag} {mg : Str → Option Value} {base : Heap}
def lawWords : List NestedKey := [.num 0, .num 1, .num 7, .text "", .text "do", .text "tell", .text "x", .tup [.text "do", .text "a"], .tup [.text "do", .num 0], .tup [.text "fall"], .tup [], .tup [.num 1, .tup [.num 2, .text "x"]], .num (-3)]
theorem lawWords_ok : ∀ k ∈ lawWords, wordOk k = true ∧ k.depth < 3 := by
  have h : (lawWords.all fun k => wordOk k && decide (k.depth < 3)) = true := by decide +kernel
  intro k hk
  have := List.all_eq_true.mp h k hk
  rw [Bool.and_eq_true, decide_eq_true_eq] at this
  exact this
def sp_word (K : PySem.W.Frag) (w : World) : Sp := fun vs H Q _ => ∃ (a c : Addr) (n : Nat), vs = [.ref a] ∧ Strm H a c n ∧ n ≤ 1000000 ∧ ∀ (k : NestedKey) (v : V) (H' : Hp), k ∈ lawWords → Dp K (hid a c H') v k.data → Kp a c H H' → Strm H' a c (n + 1) → Q v H'
/-- values that are these words -/
def WordsAt (K : PySem.W.Frag) (H : Hp) (vs : List V) (ks : List NestedKey) : Prop := Paired (fun v k => Dp K H v k.data) vs ks

theorem sc_word : FnScope ["_law_stream", "_law_some"] ["_law_stream"] (defScope s__law_word) := ⟨rfl, rfl, rfl, by decide +kernel, rfl, by decide +kernel, by decide +kernel⟩
theorem ok_word (T : Tx K mg)  (D : Df K mg "_law_word" s__law_word) (c__law_pick : Cal w K mg base CX0 2 "_law_pick" ["_law_stream", "_law_some"] (sp_pick K w)) : Cal w K mg base CX0 3 "_law_word" ["_law_stream"] (sp_word K w) := by
  have nd := sc_word.nd
  refine D.ok (N := ["_law_stream", "_law_some"]) sc_word (fun vs H Q E h => ?_) (fun _ _ _ _ _ _ us hl => match us, hl with | [_], _ => rfl) (fun cdv A outer s H vs Q E hr h => ?_)
  · obtain ⟨a, c, n, rfl, hS, hn, q⟩ := h
    rfl
  · have hu := hu_of hr
    obtain ⟨a, c, n, rfl, hS, hn, q⟩ := h
    refine ⟨_, PSs.nox (pss_cons (ps_set (i := 1) nd rfl (by first | exact Or.inl rfl | exact Or.inr rfl) (pe_lst (pa_cons pe_int (pa_cons pe_int (pa_cons pe_int (pa_cons pe_str (pa_cons pe_str (pa_cons pe_str (pa_cons pe_str (pa_cons (pe_tup (pa_cons pe_str (pa_cons pe_str pa_nil))) (pa_cons (pe_tup (pa_cons pe_str (pa_cons pe_int pa_nil))) (pa_cons (pe_tup (pa_cons pe_str pa_nil)) (pa_cons (pe_tup pa_nil) (pa_cons (pe_tup (pa_cons pe_int (pa_cons (pe_tup (pa_cons pe_int (pa_cons pe_str pa_nil))) pa_nil))) (pa_cons (pe_un un_neg pe_int) pa_nil)))))))))))))))
      (pss_one (ps_ret (pe_cal rfl c__law_pick (hr.mono (by first | decide | (simp only [Nat.add_eq]; omega))) pass0 (pa_cons (pv 0) (pa_cons (pv 1) pa_nil)))))), ?_⟩
    refine ⟨(by decide : 2 ≤ sizeLine), fun p1 h1 => ?_⟩
    have s1 : Same H (L2.upd H p1 (.tup [.str "do", .str "a"])) := Same.new h1
    have e1 : (L2.upd H p1 (.tup [.str "do", .str "a"])) p1 = some (.tup [.str "do", .str "a"]) := upd_same
    generalize L2.upd H p1 (.tup [.str "do", .str "a"]) = H1 at s1 e1
    refine ⟨(by decide : 2 ≤ sizeLine), fun p2 h2 => ?_⟩
    have s2 : Same H1 (L2.upd H1 p2 (.tup [.str "do", .int 0])) := Same.new h2
    have e2 : (L2.upd H1 p2 (.tup [.str "do", .int 0])) p2 = some (.tup [.str "do", .int 0]) := upd_same
    generalize L2.upd H1 p2 (.tup [.str "do", .int 0]) = H2 at s2 e2
    refine ⟨(by decide : 1 ≤ sizeLine), fun p3 h3 => ?_⟩
    have s3 : Same H2 (L2.upd H2 p3 (.tup [.str "fall"])) := Same.new h3
    have e3 : (L2.upd H2 p3 (.tup [.str "fall"])) p3 = some (.tup [.str "fall"]) := upd_same
    generalize L2.upd H2 p3 (.tup [.str "fall"]) = H3 at s3 e3
    refine ⟨(by decide : 0 ≤ sizeLine), fun p4 h4 => ?_⟩
    have s4 : Same H3 (L2.upd H3 p4 (.tup [])) := Same.new h4
    have e4 : (L2.upd H3 p4 (.tup [])) p4 = some (.tup []) := upd_same
    generalize L2.upd H3 p4 (.tup []) = H4 at s4 e4
    refine ⟨(by decide : 2 ≤ sizeLine), fun p5 h5 => ?_⟩
    have s5 : Same H4 (L2.upd H4 p5 (.tup [.int 2, .str "x"])) := Same.new h5
    have e5 : (L2.upd H4 p5 (.tup [.int 2, .str "x"])) p5 = some (.tup [.int 2, .str "x"]) := upd_same
    generalize L2.upd H4 p5 (.tup [.int 2, .str "x"]) = H5 at s5 e5
    refine ⟨(by decide : 2 ≤ sizeLine), fun p6 h6 => ?_⟩
    have s6 : Same H5 (L2.upd H5 p6 (.tup [.int 1, .ref p5])) := Same.new h6
    have e6 : (L2.upd H5 p6 (.tup [.int 1, .ref p5])) p6 = some (.tup [.int 1, .ref p5]) := upd_same
    generalize L2.upd H5 p6 (.tup [.int 1, .ref p5]) = H6 at s6 e6
    refine ⟨_, rfl, (by decide : 13 ≤ sizeLine), fun pl hpl => ?_⟩
    have s02 := Same.trans s1 s2
    have s03 := Same.trans s02 s3
    have s04 := Same.trans s03 s4
    have s05 := Same.trans s04 s5
    have s06 := Same.trans s05 s6
    have s7 : Same H6 (L2.upd H6 pl (.lst [.int 0, .int 1, .int 7, .str "", .str "do", .str "tell", .str "x", .ref p1, .ref p2, .ref p3, .ref p4, .ref p6, .int (-3)])) := Same.new hpl
    have e7 : (L2.upd H6 pl (.lst [.int 0, .int 1, .int 7, .str "", .str "do", .str "tell", .str "x", .ref p1, .ref p2, .ref p3, .ref p4, .ref p6, .int (-3)])) pl = some (.lst [.int 0, .int 1, .int 7, .str "", .str "do", .str "tell", .str "x", .ref p1, .ref p2, .ref p3, .ref p4, .ref p6, .int (-3)]) := upd_same
    rw [show (fun i : Int => V.int (-i)) 3 = V.int (-3) from rfl]
    generalize L2.upd H6 pl (.lst [.int 0, .int 1, .int 7, .str "", .str "do", .str "tell", .str "x", .ref p1, .ref p2, .ref p3, .ref p4, .ref p6, .int (-3)]) = H7 at s7 e7
    have s07 := Same.trans s06 s7
    have S7 := Strm.same s07 hS
    have fr : ∀ {p : Addr} {Hj : Hp} {o : HO}, Same H Hj → Hj p = none → H7 p = some o → hid a c H7 p = some o := fun sj hp ho => by
      obtain ⟨na, nc⟩ := hS.ne (Same.free sj hp)
      rw [hid_of na nc]
      exact ho
    have f1 := SqT.of (K := K) (fr (Same.refl _) h1 (Same.trans (Same.trans (Same.trans (Same.trans (Same.trans s2 s3) s4) s5) s6) s7 _ _ e1))
    have f2 := SqT.of (K := K) (fr s1 h2 (Same.trans (Same.trans (Same.trans (Same.trans s3 s4) s5) s6) s7 _ _ e2))
    have f3 := SqT.of (K := K) (fr s02 h3 (Same.trans (Same.trans (Same.trans s4 s5) s6) s7 _ _ e3))
    have f4 := SqT.of (K := K) (fr s03 h4 (Same.trans (Same.trans s5 s6) s7 _ _ e4))
    have f5 := SqT.of (K := K) (fr s04 h5 (Same.trans s6 s7 _ _ e5))
    have f6 := SqT.of (K := K) (fr s05 h6 (s7 _ _ e6))
    have f7 := SqL.of (K := K) (fr s06 hpl e7)
    have hw : WordsAt K (hid a c H7) [.int 0, .int 1, .int 7, .str "", .str "do", .str "tell", .str "x", .ref p1, .ref p2, .ref p3, .ref p4, .ref p6, .int (-3)] lawWords :=
      .cons (.int 0) (.cons (.int 1) (.cons (.int 7) (.cons (.str "") (.cons (.str "do") (.cons (.str "tell") (.cons (.str "x") (.cons (.tup f1 (.cons (.str "do") (.cons (.str "a") .nil))) (.cons (.tup f2 (.cons (.str "do") (.cons (.int 0) .nil))) (.cons (.tup f3 (.cons (.str "fall") .nil))
        (.cons (.tup f4 .nil) (.cons (.tup f6 (.cons (.int 1) (.cons (.tup f5 (.cons (.int 2) (.cons (.str "x") .nil))) .nil))) (.cons (.int (-3)) .nil))))))))))))
    refine ⟨_, rfl, _, rfl, a, c, pl, n, _, rfl, S7, f7, (by decide : 1 ≤ 13), (by decide : 13 ≤ 60), hn, fun d v H8 hv hk hS8 => ?_⟩
    obtain ⟨k, hk1, hk2⟩ := paired_get hw hv
    exact q k v H8 (List.mem_of_getElem? hk1) (Dp.leq (Same.leq hk) _ _ hk2) (Same.trans (Same.kp s07) hk) hS8

end
end FF
namespace FF
open PySem PySem.Spec PyProof.Rows L2
theorem hu65_of {k : Nat} {A : Around} (hr : Room k A) : A.units + 65 < cLine := by have := hr.un; omega
/-! ### the heap without some objects -/
def hidL (S : List Addr) (H : Hp) : Hp := fun b => if b ∈ S then none else H b
theorem hidL_not {S : List Addr} {H : Hp} {b : Addr} (h : b ∉ S) : hidL S H b = H b := if_neg h
theorem hidL_some {S : List Addr} {H : Hp} {b : Addr} {o : HO} (h : hidL S H b = some o) : b ∉ S ∧ H b = some o := by
  unfold hidL at h
  split at h
  · cases h
  · rename_i e
    exact ⟨e, h⟩
theorem hidL_le {S : List Addr} {H : Hp} : Same (hidL S H) H := fun b o q => (hidL_some q).2
theorem hidL_mono {S S' : List Addr} {H : Hp} (h : ∀ b ∈ S', b ∈ S) : Same (hidL S H) (hidL S' H) := fun b o q => by
  obtain ⟨h1, h2⟩ := hidL_some q
  rw [hidL_not (fun z => h1 (h b z))]
  exact h2
theorem hidL_put {S : List Addr} {H : Hp} {p : Addr} {o : HO} (h : p ∈ S) : Same (hidL S H) (hidL S (L2.upd H p o)) := fun b u q => by
  obtain ⟨h1, h2⟩ := hidL_some q
  have ne : b ≠ p := fun e => h1 (by rw [e]; exact h)
  rw [hidL_not h1, upd_ne ne]
  exact h2
theorem Same.hidL {S : List Addr} {H H' : Hp} (s : Same H H') : Same (hidL S H) (hidL S H') := fun b u q => by
  obtain ⟨h1, h2⟩ := hidL_some q
  rw [hidL_not h1]
  exact s b u h2
theorem Kp.hidL {S : List Addr} {a c : Addr} {H H' : Hp} (s : Kp a c H H') (ha : a ∈ S) (hc : c ∈ S) : Same (hidL S H) (hidL S H') := fun b u q => by
  obtain ⟨h1, h2⟩ := hidL_some q
  have n1 : b ≠ a := fun e => h1 (e ▸ ha)
  have n2 : b ≠ c := fun e => h1 (e ▸ hc)
  have := s b u (by rw [hid_of n1 n2]; exact h2)
  rw [hid_of n1 n2] at this
  rw [hidL_not h1]
  exact this
theorem Kp.get {a c b : Addr} {H H' : Hp} {o : HO} (s : Kp a c H H') (n1 : b ≠ a) (n2 : b ≠ c) (h : H b = some o) : H' b = some o := by
  have := s b o (by rw [hid_of n1 n2]; exact h)
  rw [hid_of n1 n2] at this
  exact this
theorem hidL_kp {a c : Addr} {H : Hp} : Same (hidL [a, c] H) (hid a c H) := fun b o q => by
  obtain ⟨h1, h2⟩ := hidL_some q
  rw [hid_of (fun e => h1 (by simp [e])) (fun e => h1 (by simp [e]))]
  exact h2
theorem hid_kpL {a c : Addr} {H : Hp} : Same (hid a c H) (hidL [a, c] H) := fun b o q => by
  obtain ⟨h1, h2⟩ := hid_ne q
  rw [hidL_not (by simp [h1, h2])]
  exact hid_le _ _ q
/-- a new object at p: what is told stays to be told with p hidden -/
theorem hidL_fresh {S : List Addr} {H H' : Hp} {p : Addr} (s : Same (FF.hidL S H) (FF.hidL S H')) (hp : H p = none) : Same (FF.hidL S H) (FF.hidL (p :: S) H') := fun b u q => by
  obtain ⟨h1, h2⟩ := hidL_some q
  have := s b u q
  rw [hidL_not h1] at this
  rw [hidL_not (fun z => (List.mem_cons.mp z).elim (fun e => by rw [e, hp] at h2; cases h2) h1)]
  exact this
/-! ### lists in another order -/
theorem perm_unmap {α β : Type} {f : α → β} {ys zs : List β} (h : ys.Perm zs) : ∀ {l : List α}, zs = l.map f → ∃ l' : List α, ys = l'.map f ∧ l'.Perm l := by
  induction h with
  | nil =>
    intro l e
    cases l with
    | nil => exact ⟨[], rfl, .nil⟩
    | cons a l => cases e
  | cons x _ ih =>
    intro l e
    cases l with
    | nil => cases e
    | cons a l =>
      cases e
      obtain ⟨l', rfl, h⟩ := ih rfl
      exact ⟨a :: l', rfl, h.cons a⟩
  | swap x y t =>
    intro l e
    match l, e with
    | a :: b :: l, e =>
      cases e
      exact ⟨b :: a :: l, rfl, .swap a b l⟩
  | trans _ _ ih1 ih2 =>
    intro l e
    obtain ⟨l2, rfl, h2⟩ := ih2 e
    obtain ⟨l1, rfl, h1⟩ := ih1 rfl
    exact ⟨l1, rfl, h1.trans h2⟩
theorem paired_perm {α β : Type} {F : α → β → Prop} {ys zs : List α} (h : ys.Perm zs) : ∀ {m : List β}, Paired F zs m → ∃ m' : List β, m'.Perm m ∧ Paired F ys m' := by
  induction h with
  | nil => exact fun p => ⟨_, .refl _, p⟩
  | cons x _ ih =>
    intro m p
    cases p with
    | cons h p =>
      obtain ⟨m', h1, h2⟩ := ih p
      exact ⟨_, h1.cons _, .cons h h2⟩
  | swap x y t =>
    intro m p
    cases p with
    | cons h1 p =>
      cases p with
      | cons h2 p => exact ⟨_, .swap _ _ _, .cons h2 (.cons h1 p)⟩
  | trans _ _ ih1 ih2 =>
    intro m p
    obtain ⟨m2, h2, p2⟩ := ih2 p
    obtain ⟨m1, h1, p1⟩ := ih1 p2
    exact ⟨m1, h1.trans h2, p1⟩
theorem cutV_take (xs : List V) (d : Nat) : cutV xs none (some (d : Int)) = xs.take d := by
  unfold cutV
  rw [HT.sIx_none, HT.sIx_nat, List.drop_zero, Nat.sub_zero]
  rcases Nat.le_total d xs.length with h | h
  · rw [Nat.min_eq_left h]
  · rw [Nat.min_eq_right h, List.take_length, List.take_of_length_le h]
section
variable {w : World} {K : PySem.W.Frag} {mg : Str → Option Value} {base : Heap}
mutual
theorem eqv_word : ∀ k : NestedKey, PyData.eqv k.data k.data = true
  | .none => by simp [NestedKey.data, PyData.eqv]
  | .num i => by simp [NestedKey.data, PyData.eqv]
  | .text x => by simp [NestedKey.data, PyData.eqv]
  | .tup ks => by
    simp only [NestedKey.data, PyData.eqv]
    exact eqv_words ks
theorem eqv_words : ∀ ks : List NestedKey, PyData.eqvAll (NestedKey.datas ks) (NestedKey.datas ks) = true
  | [] => by simp [NestedKey.datas, PyData.eqvAll]
  | k :: ks => by
    simp only [NestedKey.datas, PyData.eqvAll, Bool.and_eq_true]
    exact ⟨eqv_word k, eqv_words ks⟩
end
theorem Names1.take {l : List Str} (h : Names1 l) (d : Nat) : Names1 (l.take d) := ⟨fun x hx => h.nm x (List.mem_of_mem_take hx), fun x hx => h.sz x (List.mem_of_mem_take hx), h.nd.sublist (List.take_sublist d l), by have := h.few; rw [List.length_take]; omega⟩
theorem Names1.perm {l l' : List Str} (h : Names1 l) (p : l'.Perm l) : Names1 l' := ⟨fun x hx => h.nm x (p.mem_iff.mp hx), fun x hx => h.sz x (p.mem_iff.mp hx), p.nodup_iff.mpr h.nd, by rw [p.length_eq]; exact h.few⟩
theorem pool1 : Names1 ["hold", "look", "order", "r9"] := ⟨by decide +kernel, by decide +kernel, by decide +kernel, by decide⟩
theorem pool2 : Names1 ["a", "house"] := ⟨by decide +kernel, by decide +kernel, by decide +kernel, by decide⟩
theorem shaped_word {k : NestedKey} (h : wordOk k = true) : SeqAt.shaped k.data = true := by
  have := wordOk_iff.mp h
  show (PyData.canLay0 k.data && decide (PyData.depth k.data ≤ 64)) = true
  rw [Bool.and_eq_true]
  exact ⟨this.1, decide_eq_true (by omega)⟩
theorem shaped_words {ks : List NestedKey} (h : ∀ k ∈ ks, wordOk k = true) : SeqAt.shaped (.list (ks.map NestedKey.data)) = true := shaped_list (n := 8) (by decide) fun d hd => by
  obtain ⟨k, hk, rfl⟩ := List.mem_map.mp hd
  have := wordOk_iff.mp (h k hk)
  exact ⟨this.1, this.2.1⟩
/-- what the steps' loops keep: one < i -/
structure StepsI (K : PySem.W.Frag) (S : List Addr) (H1 : Hp) (f : Addr) (many i m : Nat) (xs : List V) (sts : List StepD) : Prop where
  lst : H1 f = some (.lst xs)
  at_ : Paired (StepAt K (hidL S H1)) xs sts
  one : ∀ st ∈ sts, st.one < i
  other : ∀ st ∈ sts, st.other < many
  words : ∀ st ∈ sts, wordOk st.k = true
  nd : ∀ h, ((rowOf h sts).map (·.k)).Nodup
  len : sts.length ≤ m
theorem StepsI.to {S : List Addr} {H1 H2 : Hp} {f : Addr} {many i i' m m' : Nat} {xs : List V} {sts : List StepD} (h : StepsI K S H1 f many i m xs sts) (s : Same (hidL S H1) (hidL S H2)) (e : H2 f = some (.lst xs)) (hi : i ≤ i') (hm : m ≤ m') : StepsI K S H2 f many i' m' xs sts :=
  ⟨e, paired_map h.at_ fun _ _ q => StepAt.same s q, fun st hst => Nat.lt_of_lt_of_le (h.one st hst) hi, h.other, h.words, h.nd, Nat.le_trans h.len hm⟩
theorem tle_hid {H : Hp} {a c wl f : Addr} {ws xs : List V} (h1 : H wl = some (.lst ws)) (h2 : H f = some (.lst xs)) : Tle (hid a c H) (hidL [wl, f, a, c] H) := fun b ys r => by
  have key : ∀ o, hid a c H b = some o → (∀ l, o ≠ .lst l) → hidL [wl, f, a, c] H b = some o := fun o q hl => by
    obtain ⟨n1, n2⟩ := hid_ne q
    have q' := hid_le _ _ q
    have n3 : b ≠ wl := fun e => by rw [e, h1] at q'; exact hl _ (Option.some.inj q').symm
    have n4 : b ≠ f := fun e => by rw [e, h2] at q'; exact hl _ (Option.some.inj q').symm
    rw [hidL_not (by simp [n1, n2, n3, n4])]
    exact q'
  exact r.elim (fun q => .inl (key _ q fun _ z => nomatch z)) fun ⟨o, q⟩ => .inr ⟨o, key _ q fun _ z => nomatch z⟩
theorem mergeK_self {kvs : List (Key × V)} (nd : (kvs.map (·.1)).Nodup) : mergeK [] kvs = kvs := by
  have : ∀ (more acc : List (Key × V)), ((acc ++ more).map (·.1)).Nodup → mergeK acc more = acc ++ more := by
    intro more
    induction more with
    | nil => intro acc _; simp [mergeK]
    | cons p r ih =>
      intro acc h
      have hp : p.1 ∉ acc.map (·.1) := by
        rw [List.map_append, List.nodup_append] at h
        exact fun hm => h.2.2 _ hm p.1 (by simp) rfl
      have e1 : valV acc p.1 = none := by
        cases e : valV acc p.1 with
        | none => rfl
        | some v => exact absurd (valV_in e) hp
      have e2 : mergeK acc (p :: r) = mergeK (putK acc p.1 p.2) r := rfl
      rw [e2, putK_new _ e1, ih _ (by rw [List.append_assoc]; exact h), List.append_assoc]
      rfl
  exact this kvs [] nd
theorem rowOf_perm {h : Nat} {a b : List StepD} (p : a.Perm b) : (rowOf h a).Perm (rowOf h b) := p.filter _
theorem Strm.put {H : Hp} {a c p : Addr} {n : Nat} {o : HO} (h : Strm H a c n) (n1 : p ≠ a) (n2 : p ≠ c) : Strm (L2.upd H p o) a c n := by
  obtain ⟨e0, cells, rem, acc, g1, g2, g3⟩ := h
  exact ⟨e0, cells, rem, acc, by rw [upd_ne (Ne.symm n1)]; exact g1, by rw [upd_ne (Ne.symm n2)]; exact g2, g3⟩
theorem words_all {H : Hp} {ws : List V} {ks : List NestedKey} (h : WordsAt K H ws ks) : DpAll K H ws (ks.map NestedKey.data) := by
  induction h with
  | nil => exact .nil
  | cons p _ ih => exact .cons p ih
/-- a new list given to a def: it is read under the hidden heap -/
theorem newL {H : Hp} {a c p : Addr} {n : Nat} {xs : List V} (h : Strm H a c n) (hp : H p = none) : Same H (L2.upd H p (.lst xs)) ∧ SqL K (hid a c (L2.upd H p (.lst xs))) p xs ∧ Strm (L2.upd H p (.lst xs)) a c n :=
  let ⟨h1, h2⟩ := h.ne hp
  ⟨Same.new hp, SqL.of (by rw [hid_of h1 h2, upd_same]), Strm.same (Same.new hp) h⟩
theorem kp_tle {a c : Addr} {n : Nat} {H H' : Hp} (k : Kp a c H H') (h : Strm H a c n) : Tle H H' := fun b xs r => by
  obtain ⟨_, cells, rem, acc, g1, g2, _⟩ := h
  have key : ∀ o, H b = some o → (∀ l, o ≠ .lst l) → H' b = some o := fun o q hl => by
    have n1 : b ≠ a := fun e => by rw [e, g1] at q; exact hl _ (Option.some.inj q).symm
    have n2 : b ≠ c := fun e => by rw [e, g2] at q; exact hl _ (Option.some.inj q).symm
    exact k.get n1 n2 q
  exact r.elim (fun q => .inl (key _ q fun _ z => nomatch z)) fun ⟨o, q⟩ => .inr ⟨o, key _ q fun _ z => nomatch z⟩
theorem tle_lst {H : Hp} {p : Addr} {xs : List V} {o : HO} (h : H p = some (.lst xs)) : Tle H (L2.upd H p o) := Tle.but h (fun _ z => nomatch z) (fun _ _ z => nomatch z) fun b u hb q => by rw [upd_ne hb]; exact q
def sideWords : List NestedKey := [.text "x", .text "y", .tup [.text "x", .num 0], .num 1]
theorem sideWords_ok : ∀ k ∈ sideWords, wordB k = true ∧ k.depth < 3 := by
  have h : (sideWords.all fun k => wordB k && decide (k.depth < 3)) = true := by decide +kernel
  intro k hk
  have := List.all_eq_true.mp h k hk
  rw [Bool.and_eq_true, decide_eq_true_eq] at this
  exact this
theorem tle_hidL {S : List Addr} {H : Hp} (h : ∀ b ∈ S, ∃ xs, H b = some (.lst xs)) : Tle H (hidL S H) := fun b ys r => by
  have key : ∀ o, H b = some o → (∀ l, o ≠ .lst l) → hidL S H b = some o := fun o q hl => by
    rw [hidL_not (fun hm => by
      obtain ⟨xs, e⟩ := h b hm
      rw [q] at e
      exact hl xs (Option.some.inj e))]
    exact q
  exact r.elim (fun q => .inl (key _ q fun _ z => nomatch z)) fun ⟨o, q⟩ => .inr ⟨o, key _ q fun _ z => nomatch z⟩
theorem Strm.two {H : Hp} {a c : Addr} {n : Nat} (h : Strm H a c n) : (∃ xs, H a = some (.lst xs)) ∧ ∃ xs, H c = some (.lst xs) := let ⟨_, _, _, _, g1, g2, _⟩ := h; ⟨⟨_, g1⟩, _, g2⟩
def sp_steps (K : PySem.W.Frag) (w : World) : Sp := fun vs H Q _ => ∃ (a c : Addr) (n many : Nat), vs = [.ref a, iV many, iV 3] ∧ Strm H a c n ∧ 1 ≤ many ∧ many ≤ 7 ∧ n + 400 ≤ 1000000 ∧
  ∀ (p : Addr) (H' : Hp) (sts : List StepD) (n' : Nat), StepsAt K (hid a c H') p sts → StepsOk many sts → (∀ st ∈ sts, wordOk st.k = true) → n' ≤ n + 400 → Kp a c H H' → H p = none → Strm H' a c n' → Q (.ref p) H'

theorem sc_steps : FnScope ["_law_stream", "_law_many", "_law_most", "_law_found", "_law_one", "_law_words", "_law_k", "_law_word_here", "_law_rules_here", "_law_sides", "_law_sights", "_law_other", "_law_side"] ["_law_stream", "_law_many", "_law_most"] (defScope s__law_steps) := ⟨rfl, rfl, rfl, by decide +kernel, rfl, by decide +kernel, by decide +kernel⟩
theorem ok_steps (T : Tx K mg)  (D : Df K mg "_law_steps" s__law_steps) (c__law_draw : Cal w K mg base CX0 1 "_law_draw" ["_law_stream", "_law_many"] (sp_draw K w)) (c__law_pick : Cal w K mg base CX0 2 "_law_pick" ["_law_stream", "_law_some"] (sp_pick K w)) (c__law_mixed : Cal w K mg base CX0 2 "_law_mixed" ["_law_stream", "_law_some"] (sp_mixed K w)) (c__law_word : Cal w K mg base CX0 3 "_law_word" ["_law_stream"] (sp_word K w)) : Cal w K mg base CX0 4 "_law_steps" ["_law_stream", "_law_many", "_law_most"] (sp_steps K w) := by
  have nd := sc_steps.nd
  refine D.ok (N := ["_law_stream", "_law_many", "_law_most", "_law_found", "_law_one", "_law_words", "_law_k", "_law_word_here", "_law_rules_here", "_law_sides", "_law_sights", "_law_other", "_law_side"]) sc_steps (fun vs H Q E h => ?_) (fun _ _ _ _ _ _ us hl => match us, hl with | [_, _, _], _ => rfl) (fun cdv A outer s H vs Q E hr h => ?_)
  · obtain ⟨a, c, n, many, rfl, hS, h1, h7, hn, q⟩ := h
    rfl
  · have hu := hu_of hr
    have hu65 := hu65_of hr
    obtain ⟨a, c, n, many, rfl, hS, h1, h7, hn, q⟩ := h
    refine ⟨_, PSs.nox (pss_cons (ps_set (i := 3) nd rfl (by first | exact Or.inl rfl | exact Or.inr rfl) (pe_lst pa_nil))
      (pss_cons (ps_for PassesOwn.never rfl (pi_range1 (by rfl) T.n_range (pa_cons (pv 1) pa_nil)) (pg_name (i := 4) nd rfl (by first | exact Or.inl rfl | exact Or.inr rfl)) (pss_cons (ps_set (i := 5) nd rfl (by first | exact Or.inl rfl | exact Or.inr rfl) (pe_lst pa_nil))
      (pss_one (ps_for PassesOwn.never rfl (pi_range1 (by rfl) T.n_range (pa_cons (pe_cal rfl c__law_draw (hr.mono (by first | decide | (simp only [Nat.add_eq]; omega))) pass0 (pa_cons (pv 0) (pa_cons (pe_op op_add (pv 2) pe_int) pa_nil))) pa_nil)) (pg_name (i := 6) nd rfl (by first | exact Or.inl rfl | exact Or.inr rfl)) (pss_cons (ps_set (i := 7) nd rfl (by first | exact Or.inl rfl | exact Or.inr rfl) (pe_cal rfl c__law_word (hr.mono (by first | decide | (simp only [Nat.add_eq]; omega))) pass0 (pa_cons (pv 0) pa_nil)))
      (pss_one (ps_if (pt_cmpR (op_notInD hu65) (pv 7) (pv 5) (by with_unfolding_all rfl)) (pss_cons (ps_expr (pe_bm PySem.F.plainAttrs_list PySem.F.slot_list_append PySem.F.type_list_append mt_append (pv 5) (pa_cons (pv 7) pa_nil)))
      (pss_cons (ps_set (i := 8) nd rfl (by first | exact Or.inl rfl | exact Or.inr rfl) (pe_slice sl_list (pe_cal rfl c__law_mixed (hr.mono (by first | decide | (simp only [Nat.add_eq]; omega))) pass0 (pa_cons (pv 0) (pa_cons (pe_lst (pa_cons pe_str (pa_cons pe_str (pa_cons pe_str (pa_cons pe_str pa_nil))))) pa_nil))) po_none (po_some (pe_cal rfl c__law_pick (hr.mono (by first | decide | (simp only [Nat.add_eq]; omega))) pass0 (pa_cons (pv 0) (pa_cons (pe_lst (pa_cons pe_int (pa_cons pe_int (pa_cons pe_int (pa_cons pe_int (pa_cons pe_int pa_nil)))))) pa_nil))))))
      (pss_cons (ps_set (i := 9) nd rfl (by first | exact Or.inl rfl | exact Or.inr rfl) (pe_slice sl_list (pe_cal rfl c__law_mixed (hr.mono (by first | decide | (simp only [Nat.add_eq]; omega))) pass0 (pa_cons (pv 0) (pa_cons (pe_lst (pa_cons pe_str (pa_cons pe_str pa_nil))) pa_nil))) po_none (po_some (pe_cal rfl c__law_draw (hr.mono (by first | decide | (simp only [Nat.add_eq]; omega))) pass0 (pa_cons (pv 0) (pa_cons pe_int pa_nil))))))
      (pss_cons (ps_set (i := 10) nd rfl (by first | exact Or.inl rfl | exact Or.inr rfl) (pe_callTy (call_dictP rfl) (by rfl) T.n_dict (by decide +kernel) (pa_cons (pe_lc (own := [("_law_side", 12)]) (by rfl) nd (pi_list (pv 9)) (blkOk_by (own := [("_law_side", 12)]) (N := ["_law_stream", "_law_many", "_law_most", "_law_found", "_law_one", "_law_words", "_law_k", "_law_word_here", "_law_rules_here", "_law_sides", "_law_sights", "_law_other", "_law_side"]) (sc := defScope s__law_steps) (by decide +kernel)) (fun _ _ _ _ _ => (pg_name (i := 12) nd rfl (by first | exact Or.inl rfl | exact Or.inr rfl))) (fun _ _ _ _ _ => pts_nil) (fun _ _ _ _ _ => (pe_tup (pa_cons (pv 12) (pa_cons (pe_cal rfl c__law_pick (hr.mono (by first | decide | (simp only [Nat.add_eq]; omega))) pass0 (pa_cons (pv 0) (pa_cons (pe_lst (pa_cons pe_str (pa_cons pe_str (pa_cons (pe_tup (pa_cons pe_str (pa_cons pe_int pa_nil))) (pa_cons pe_int pa_nil))))) pa_nil))) pa_nil))))) pa_nil)))
      (pss_cons (ps_set (i := 11) nd rfl (by first | exact Or.inl rfl | exact Or.inr rfl) (pe_ifExp (pt_cmpR op_eq (pe_cal rfl c__law_draw (hr.mono (by first | decide | (simp only [Nat.add_eq]; omega))) pass0 (pa_cons (pv 0) (pa_cons pe_int pa_nil))) pe_int (nomark _)) (pe_callB (call_min2 rfl) (by rfl) T.n_min (by decide +kernel) (pa_cons (pe_op op_sub (pv 1) pe_int) (pa_cons (pe_op op_add (pv 4) pe_int) pa_nil))) (pe_cal rfl c__law_draw (hr.mono (by first | decide | (simp only [Nat.add_eq]; omega))) pass0 (pa_cons (pv 0) (pa_cons (pv 1) pa_nil)))))
      (pss_one (ps_expr (pe_bm PySem.F.plainAttrs_list PySem.F.slot_list_append PySem.F.type_list_append mt_append (pv 3) (pa_cons (pe_tup (pa_cons (pv 7) (pa_cons (pv 4) (pa_cons (pv 11) (pa_cons (pv 8) (pa_cons (pv 10) pa_nil)))))) pa_nil))))))))) pss_nil)))))))
      (pss_one (ps_ret (pe_cal rfl c__law_mixed (hr.mono (by first | decide | (simp only [Nat.add_eq]; omega))) pass0 (pa_cons (pv 0) (pa_cons (pv 3) pa_nil))))))), ?_⟩
    refine ⟨(by decide : 0 ≤ sizeLine), fun f hf => ?_⟩
    obtain ⟨nfa, nfc⟩ := hS.ne hf
    have k1 : Kp a c H (L2.upd H f (.lst [])) := Kp.new (Same.refl _) hf
    have hS1 := Strm.same (Same.new hf (o := .lst [])) hS
    have hf1 : (L2.upd H f (.lst [])) f = some (.lst []) := upd_same
    generalize L2.upd H f (.lst []) = H1 at k1 hS1 hf1
    refine ⟨_, rfl, many, rfl, by omega, by omega, ?_⟩
    refine for_it walk_range (fun i σ H2 => ∃ x4 x5 x6 x7 x8 x9 x10 x11 x12 n2 xs sts, σ = [some (.ref a), some (iV many), some (iV 3), some (.ref f), x4, x5, x6, x7, x8, x9, x10, x11, x12] ∧ Kp a c H H2 ∧ Strm H2 a c n2 ∧ n2 ≤ n + 40 * i ∧ StepsI K [f, a, c] H2 f many i (3 * i) xs sts)
      ⟨_, _, _, _, _, _, _, _, _, n, [], [], rfl, k1, hS1, Nat.le_refl _, ⟨hf1, .nil, (fun _ z => nomatch z), (fun _ z => nomatch z), (fun _ z => nomatch z), fun _ => List.nodup_nil, Nat.le_refl _⟩⟩ (fun _ _ _ _ _ => trivial) ?_ ?_
    · rintro i x σ H2x H2 hi ⟨x4, x5, x6, x7, x8, x9, x10, x11, x12, n2, xs, sts, rfl, k2, hS2, hn2, hI⟩ ⟨rfl, ex⟩
      rw [Int.toNat_natCast] at hi
      have ex : x = iV i := ex.trans (show V.int (0 + (i : Int)) = V.int (i : Int) by rw [Int.zero_add])
      subst ex
      refine ⟨(by decide : 0 ≤ sizeLine), fun wl hwl => ?_⟩
      have hf2 := hI.lst
      obtain ⟨nwa, nwc⟩ := hS2.ne hwl
      have nwf : wl ≠ f := fun e => by rw [e, hf2] at hwl; cases hwl
      have hwl0 : H wl = none := k2.free hwl hS2
      have s23 : Same H2 (L2.upd H2 wl (.lst [])) := Same.new hwl
      have hwl3 : (L2.upd H2 wl (.lst [])) wl = some (.lst []) := upd_same
      have kL3 := hidL_fresh (S := [f, a, c]) (Same.hidL s23) hwl
      have k3 : Kp a c H (L2.upd H2 wl (.lst [])) := Kp.new k2 hwl
      have hS3 := Strm.same s23 hS2
      have hf3 := s23 _ _ hf2
      generalize L2.upd H2 wl (.lst []) = H3 at s23 hwl3 kL3 k3 hS3 hf3
      have hI3 : StepsI K [wl, f, a, c] H3 f many (i + 1) (3 * i) xs sts := ⟨hf3, paired_map hI.at_ fun _ _ q => StepAt.same kL3 q, fun st hst => Nat.lt_succ_of_lt (hI.one st hst), hI.other, hI.words, hI.nd, hI.len⟩
      have hrow0 : rowOf i sts = [] := List.filter_eq_nil_iff.mpr fun st hst e => absurd (hI.one st hst) (by have := of_decide_eq_true e; omega)
      refine ⟨_, rfl, _, rfl, _, _, rfl, rfl, a, c, n2, 4, rfl, hS3, by decide, by decide, by omega, fun d H4 hd kp4 hS4 => ⟨d, rfl, by omega, by omega, ?_⟩⟩
      have hf4 := kp4.get nfa nfc hf3
      have hwl4 := kp4.get nwa nwc hwl3
      refine for_it walk_range (fun j σ H5 => ∃ x6 x7 x8 x9 x10 x11 x12 n5 xs sts ws ks, σ = [some (.ref a), some (iV many), some (iV 3), some (.ref f), some (iV i), some (.ref wl), x6, x7, x8, x9, x10, x11, x12] ∧ Kp a c H H5 ∧ Strm H5 a c n5 ∧ n5 ≤ n + 40 * i + 1 + 13 * j ∧ StepsI K [wl, f, a, c] H5 f many (i + 1) (3 * i + j) xs sts ∧
          H5 wl = some (.lst ws) ∧ WordsAt K (hidL [wl, f, a, c] H5) ws ks ∧ (rowOf i sts).map (·.k) = ks ∧ ks.length ≤ j)
        ⟨_, _, _, _, _, _, _, n2 + 1, xs, sts, [], [], rfl, Same.trans k3 kp4, hS4, by omega, hI3.to (kp4.hidL (by simp) (by simp)) hf4 (Nat.le_refl _) (Nat.le_refl _), hwl4, .nil, by rw [hrow0]; rfl, Nat.le_refl _⟩ (fun _ _ _ _ _ => trivial) ?_ ?_
      · rintro j x σ H5x H5 hj ⟨x6, x7, x8, x9, x10, x11, x12, n5, xs, sts, ws, ks, rfl, k5, hS5, hn5, hI5, hwl5, hws5, hrow, hkl⟩ ⟨rfl, ex⟩
        rw [Int.toNat_natCast] at hj
        have ex : x = iV j := ex.trans (show V.int (0 + (j : Int)) = V.int (j : Int) by rw [Int.zero_add])
        subst ex
        refine ⟨_, rfl, a, c, n5, rfl, hS5, by omega, fun k v H6 hk hv kp6 hS6 => ?_⟩
        obtain ⟨hkok, hkd⟩ := lawWords_ok k hk
        have hf6 := kp6.get nfa nfc hI5.lst
        have hwl6 := kp6.get nwa nwc hwl5
        have kL6 := kp6.hidL (S := [wl, f, a, c]) (by simp) (by simp)
        have hI6 := hI5.to kL6 hf6 (Nat.le_refl _) (Nat.le_refl _)
        have hws6 : WordsAt K (hidL [wl, f, a, c] H6) ws ks := paired_map hws5 fun _ _ q => Dp.leq (Same.leq kL6) _ _ q
        have k6 := Same.trans k5 kp6
        have hkso : ∀ k ∈ ks, wordOk k = true := fun k hk => by
          rw [← hrow] at hk
          obtain ⟨st, hst, rfl⟩ := List.mem_map.mp hk
          exact hI5.words st (List.mem_filter.mp hst).1
        refine ⟨_, rfl, _, rfl, k.data, ks.map NestedKey.data, Dp.leq (Same.leq hid_le) _ _ hv, .lst (SqL.of hwl6) (words_all (paired_map hws6 fun _ _ q => Dp.leq (Same.leq hidL_le) _ _ q)), shaped_word hkok, shaped_words hkso, _, rfl, ?_⟩
        cases hany : (ks.map NestedKey.data).any fun z => PyData.eqv z k.data with
        | true => exact ⟨_, _, _, _, _, _, _, n5 + 1, xs, sts, ws, ks, rfl, k6, hS6, by omega, hI6.to (Same.refl _) hf6 (Nat.le_refl _) (by omega), hwl6, hws6, hrow, by omega⟩
        | false =>
          have hnk : k ∉ ks := fun hm => by
            have := List.any_eq_false.mp hany k.data (List.mem_map.mpr ⟨k, hm, rfl⟩)
            exact this (eqv_word k)
          have hlws : ws.length = ks.length := Paired.length hws6
          refine ⟨_, rfl, .inl ⟨rfl, _, SqL.of hwl6⟩, _, rfl, wl, _, v, rfl, rfl, hwl6, small1000 (by omega), ?_⟩
          have k7 : Kp a c H (L2.upd H6 wl (.lst (ws ++ [v]))) := Kp.over k6 hwl0
          have hS7 := Strm.put (o := .lst (ws ++ [v])) hS6 nwa nwc
          have hf7 : (L2.upd H6 wl (.lst (ws ++ [v]))) f = some (.lst xs) := by rw [upd_ne (Ne.symm nwf)]; exact hf6
          have hwl7 : (L2.upd H6 wl (.lst (ws ++ [v]))) wl = some (.lst (ws ++ [v])) := upd_same
          have kL7 : Same (hidL [wl, f, a, c] H6) (hidL [wl, f, a, c] (L2.upd H6 wl (.lst (ws ++ [v])))) := hidL_put (by simp)
          have hv7 : Dp K (hidL [wl, f, a, c] (L2.upd H6 wl (.lst (ws ++ [v])))) v k.data := Dp.leq (Same.leq kL7) _ _ (word_tle (tle_hid hwl6 hf6) _ _ hv)
          generalize L2.upd H6 wl (.lst (ws ++ [v])) = H7 at k7 hS7 hf7 hwl7 kL7 hv7
          refine ⟨_, rfl, (by decide : 4 ≤ sizeLine), fun pl hpl => ?_⟩
          obtain ⟨s8, q8, hS8⟩ := newL (K := K) (xs := [.str "hold", .str "look", .str "order", .str "r9"]) hS7 hpl
          have k8 : Kp a c H7 (L2.upd H7 pl (.lst [.str "hold", .str "look", .str "order", .str "r9"])) := Same.kp s8
          generalize L2.upd H7 pl (.lst [.str "hold", .str "look", .str "order", .str "r9"]) = H8 at s8 q8 hS8 k8
          refine ⟨a, c, pl, n5 + 1, _, rfl, hS8, q8, (by decide : 4 ≤ 60), (show n5 + 1 + 4 ≤ 1000000 by omega), fun ys pm H9 hperm hpm hpm9 kp9 hS9 => ?_⟩
          obtain ⟨l1, rfl, hl1⟩ := perm_unmap (f := V.str) (l := ["hold", "look", "order", "r9"]) hperm rfl
          have hS9 : Strm H9 a c (n5 + 5) := hS9
          have k9 := Same.trans k8 kp9
          obtain ⟨npma, npmc⟩ := hS8.ne hpm
          refine ⟨_, rfl, (by decide : 5 ≤ sizeLine), fun p5 hp5 => ?_⟩
          obtain ⟨s10, q10, hS10⟩ := newL (K := K) (xs := [iV 0, iV 0, iV 1, iV 1, iV 2]) hS9 hp5
          refine ⟨a, c, p5, n5 + 5, _, rfl, hS10, q10, (by decide : 1 ≤ 5), (by decide : 5 ≤ 60), (by omega), fun d5 v5 H11 hv5 kp11 hS11 => ?_⟩
          obtain ⟨m5, rfl⟩ : ∃ m5 : Nat, v5 = iV m5 := by
            have hm := List.mem_of_getElem? hv5
            simp only [List.mem_cons, List.not_mem_nil, or_false] at hm
            rcases hm with rfl | rfl | rfl | rfl | rfl
            · exact ⟨0, rfl⟩
            · exact ⟨0, rfl⟩
            · exact ⟨1, rfl⟩
            · exact ⟨1, rfl⟩
            · exact ⟨2, rfl⟩
          have k11 := Same.trans k9 (Same.trans (Same.kp s10) kp11)
          have hpm11 := kp11.get npma npmc (s10 _ _ hpm9)
          clear q10 hS10 s10 q8 s8 hv5
          refine ⟨_, rfl, pm, _, rfl, SqL.of hpm11, fun r hr => ?_⟩
          have nrf : r ≠ f := fun e => by rw [e, Kp.get k11 nfa nfc hf7] at hr; cases hr
          have nrw : r ≠ wl := fun e => by rw [e, Kp.get k11 nwa nwc hwl7] at hr; cases hr
          rw [cutV_take, ← List.map_take]
          obtain ⟨nra, nrc⟩ := hS11.ne hr
          have k12 : Kp a c H7 (L2.upd H11 r (.lst ((l1.take m5).map V.str))) := Kp.new k11 hr
          have hS12 := Strm.same (Same.new hr (o := .lst ((l1.take m5).map V.str))) hS11
          have hr12 : (L2.upd H11 r (.lst ((l1.take m5).map V.str))) r = some (.lst ((l1.take m5).map V.str)) := upd_same
          generalize L2.upd H11 r (.lst ((l1.take m5).map V.str)) = H12 at k12 hS12 hr12
          refine ⟨_, rfl, (by decide : 2 ≤ sizeLine), fun pl2 hpl2 => ?_⟩
          obtain ⟨s13, q13, hS13⟩ := newL (K := K) (xs := [.str "a", .str "house"]) hS12 hpl2
          have k13 : Kp a c H12 (L2.upd H12 pl2 (.lst [.str "a", .str "house"])) := Same.kp s13
          generalize L2.upd H12 pl2 (.lst [.str "a", .str "house"]) = H13 at s13 q13 hS13 k13
          refine ⟨a, c, pl2, n5 + 6, _, rfl, hS13, q13, (by decide : 2 ≤ 60), (show n5 + 6 + 2 ≤ 1000000 by omega), fun ys2 pm2 H14 hperm2 hpm2 hpm14 kp14 hS14 => ?_⟩
          obtain ⟨l2, rfl, hl2⟩ := perm_unmap (f := V.str) (l := ["a", "house"]) hperm2 rfl
          have hS14 : Strm H14 a c (n5 + 8) := hS14
          obtain ⟨npm2a, npm2c⟩ := hS13.ne hpm2
          refine ⟨_, rfl, a, c, n5 + 8, 3, rfl, hS14, by decide, by decide, by omega, fun m6 H15 hm6 kp15 hS15 => ?_⟩
          have hpm15 := kp15.get npm2a npm2c hpm14
          refine ⟨_, rfl, pm2, _, rfl, SqL.of hpm15, fun sl hsl => ?_⟩
          rw [cutV_take, ← List.map_take]
          have kp16 : Kp a c H12 (L2.upd H15 sl (.lst ((l2.take m6).map V.str))) := Kp.new (Same.trans k13 (Same.trans kp14 kp15)) hsl
          have hS16 := Strm.same (Same.new hsl (o := .lst ((l2.take m6).map V.str))) hS15
          have hsl16 : (L2.upd H15 sl (.lst ((l2.take m6).map V.str))) sl = some (.lst ((l2.take m6).map V.str)) := upd_same
          obtain ⟨nsla, nslc⟩ := hS15.ne hsl
          generalize L2.upd H15 sl (.lst ((l2.take m6).map V.str)) = H16 at kp16 hS16 hsl16
          have k16 : Kp a c H7 H16 := Same.trans k12 kp16
          have hr16 := kp16.get nra nrc hr12
          clear hS15 kp15 hpm15 hpm14 kp14 hS14 hS13 q13 s13 k13 hS12 hr12 hS11 hpm11 hS9 hpm9
          have hN2 : Names1 (l2.take m6) := (pool2.perm hl2).take m6
          have hl2f : (l2.take m6).length ≤ 2 := by
            have e1 : l2.length = 2 := hl2.length_eq
            rw [List.length_take]
            omega
          generalize l2.take m6 = l2 at hsl16 hN2 hl2f
          refine ⟨_, rfl, sl, rfl, ⟨_, SqL.of hsl16⟩, fun D hD => ?_⟩
          obtain ⟨nDa, nDc⟩ := hS16.ne hD
          have hD7 : H7 D = none := k16.free hD hS16
          have nDs : D ≠ sl := fun e => by rw [e, hsl16] at hD; cases hD
          refine lc_it (walk_list (xs := l2.map V.str)) (fun j2 H17 => ∃ ps kvs n17, H17 D = some (.lst (ps.map V.ref)) ∧ Paired (fun p (kv : Key × V) => SqT K H17 p [kV kv.1, kv.2]) ps kvs ∧ kvs.map (·.1) = kS (l2.take j2) ∧ (∀ x ∈ kvs, ∃ kz : NestedKey, Dp K H17 x.2 kz.data ∧ wordB kz = true ∧ kz.depth < 3) ∧ Strm H17 a c n17 ∧ n17 ≤ n5 + 9 + j2 ∧ Kp a c H16 H17)
            ⟨[], [], n5 + 9, upd_same, .nil, rfl, (fun _ z => nomatch z), Strm.same (Same.new hD) hS16, Nat.le_refl _, Kp.new (Same.refl _) hD⟩ (fun j2 H17 _ ⟨_, _, _, _, _, _, _, _, _, z⟩ => SqL.of (z.get nsla nslc hsl16)) (fun j2 x H17x H17 hj2 ⟨ps, kvs, n17, z1, z2, z3, z4, z5, z6, z7⟩ ⟨e, hx⟩ => ?_) (fun H17 ⟨ps, kvs, n17, z1, z2, z3, z4, z5, z6, z7⟩ => ?_)
          · subst e
            obtain ⟨sn, hsn, rfl⟩ := map_get hx
            rw [List.length_map] at hj2
            refine ⟨rfl, _, rfl, _, rfl, (by decide : 2 ≤ sizeLine), fun pt hpt => ?_⟩
            have sa : Same H17 (L2.upd H17 pt (.tup [.str "x", .int 0])) := Same.new hpt
            have hpta : (L2.upd H17 pt (.tup [.str "x", .int 0])) pt = some (.tup [.str "x", .int 0]) := upd_same
            have hSa := Strm.same sa z5
            obtain ⟨npta, nptc⟩ := z5.ne hpt
            generalize L2.upd H17 pt (.tup [.str "x", .int 0]) = Ha at sa hpta hSa
            refine ⟨(by decide : 4 ≤ sizeLine), fun p4 hp4 => ?_⟩
            obtain ⟨sb, qb, hSb⟩ := newL (K := K) (xs := [.str "x", .str "y", .ref pt, .int 1]) hSa hp4
            generalize L2.upd Ha p4 (.lst [.str "x", .str "y", .ref pt, .int 1]) = Hb at sb qb hSb
            have hwb : WordsAt K Hb [.str "x", .str "y", .ref pt, .int 1] sideWords := .cons (.str "x") (.cons (.str "y") (.cons (.tup (SqT.of (sb _ _ hpta)) (.cons (.str "x") (.cons (.int 0) .nil))) (.cons (.int 1) .nil)))
            refine ⟨a, c, p4, n17, _, rfl, hSb, qb, (by decide : 1 ≤ 4), (by decide : 4 ≤ 60), by omega, fun d7 v7 Hc hv7 kpc hSc => ?_⟩
            obtain ⟨kz, hkz, hdz⟩ := paired_get hwb hv7
            have tbc : Tle Hb Hc := kp_tle kpc hSb
            have hvz : Dp K Hc v7 kz.data := word_tle tbc _ _ hdz
            have t17c : Tle H17 Hc := Tle.trans (Same.tle (Same.trans sa sb)) tbc
            have k17c : Kp a c H17 Hc := Same.trans (Same.kp (Same.trans sa sb)) kpc
            have z1c := k17c.get nDa nDc z1
            refine ⟨(by decide : 2 ≤ sizeLine), fun tp htp => ?_⟩
            obtain ⟨ntpa, ntpc⟩ := hSc.ne htp
            have sd : Same Hc (L2.upd Hc tp (.tup [.str sn, v7])) := Same.new htp
            have htpd : (L2.upd Hc tp (.tup [.str sn, v7])) tp = some (.tup [.str sn, v7]) := upd_same
            generalize L2.upd Hc tp (.tup [.str sn, v7]) = Hd at sd htpd
            have z1d := sd _ _ z1c
            have hps : ps.length = kvs.length := Paired.length z2
            have hkl2 : kvs.length ≤ l2.length := by
              have := congrArg List.length z3
              rw [List.length_map, List.length_map, List.length_take] at this
              omega
            have te : Tle Hd (L2.upd Hd D (.lst (ps.map V.ref ++ [.ref tp]))) := tle_lst z1d
            have tz : Tle H17 (L2.upd Hd D (.lst (ps.map V.ref ++ [.ref tp]))) := Tle.trans t17c (Tle.trans (Same.tle sd) te)
            refine ⟨_, z1d, ?_, ps ++ [tp], kvs ++ [(.inr sn, v7)], n17 + 1, by rw [upd_same, List.map_append]; rfl, paired_snoc (paired_map z2 fun _ _ q => SqT.tle tz q) (SqT.tle te (show SqT K Hd tp [kV (Sum.inr sn : Key), v7] from SqT.of htpd)), ?_, ?_, Strm.put (Strm.same sd hSc) nDa nDc, by omega, Kp.over (Same.trans z7 (Same.trans k17c (Same.kp sd))) hD⟩
            · rw [List.length_map]
              exact small1000 (by omega)
            · rw [List.map_append, z3, take_snoc hsn]
              show kS (l2.take j2) ++ kS [sn] = kS (l2.take j2 ++ [sn])
              exact (List.map_append (f := (Sum.inr : Str → Key))).symm
            · intro x hx
              rcases List.mem_append.mp hx with hx | hx
              · obtain ⟨kz', g1, g2⟩ := z4 x hx
                exact ⟨kz', word_tle tz _ _ g1, g2⟩
              · rw [List.mem_singleton.mp hx]
                exact ⟨kz, word_tle (Tle.trans (Same.tle sd) te) _ _ hvz, sideWords_ok kz (List.mem_of_getElem? hkz)⟩
          · rw [List.length_map] at z3 z6
            rw [List.take_length] at z3
            have hnd : (kvs.map (·.1)).Nodup := by rw [z3]; exact kS_nodup hN2.nd
            refine ⟨D, ps, kvs, rfl, SqL.of z1, z2, fun sd hsd => ?_⟩
            rw [mergeK_self hnd]
            obtain ⟨nsda, nsdc⟩ := z5.ne hsd
            have nsdf : sd ≠ f := fun e => by rw [e, Kp.get (Same.trans k16 z7) nfa nfc hf7] at hsd; cases hsd
            have nsdw : sd ≠ wl := fun e => by rw [e, Kp.get (Same.trans k16 z7) nwa nwc hwl7] at hsd; cases hsd
            have s18 : Same H17 (L2.upd H17 sd (.dK kvs)) := Same.new hsd
            have hsd18 : (L2.upd H17 sd (.dK kvs)) sd = some (.dK kvs) := upd_same
            have hS18 := Strm.same s18 z5
            have k18 : Kp a c H7 (L2.upd H17 sd (.dK kvs)) := Same.trans k16 (Kp.new z7 hsd)
            have hr18 := s18 _ _ (z7.get nra nrc hr16)
            have z4' : ∀ x ∈ kvs, ∃ kz : NestedKey, Dp K (L2.upd H17 sd (.dK kvs)) x.2 kz.data ∧ wordB kz = true ∧ kz.depth < 3 := fun x hx => let ⟨kz, g1, g2⟩ := z4 x hx; ⟨kz, word_tle (Same.tle s18) _ _ g1, g2⟩
            generalize L2.upd H17 sd (.dK kvs) = H18 at s18 hsd18 hS18 k18 hr18 z4'
            clear z1 z2 z4 z5 z7 s18
            have hN1 : Names1 (l1.take m5) := (pool1.perm hl1).take m5
            have hf18 := k18.get nfa nfc hf7
            have hwl18 := k18.get nwa nwc hwl7
            refine ⟨_, rfl, a, c, n17, 3, rfl, hS18, by decide, by decide, by omega, fun d8 H19 hd8 kp19 hS19 => ?_⟩
            refine ⟨rfl, _, rfl, ?_⟩
            by_cases h0 : d8 = 0
            · subst h0
              rw [decide_eq_true (show V.int ((0 : Nat) : Int) = V.int 0 from rfl)]
              obtain ⟨o, ho, heo⟩ : ∃ o : Nat, o < many ∧ (if ((i : Int) + 1) < (many : Int) - 1 then ((i : Int) + 1) else (many : Int) - 1) = (o : Int) := by
                by_cases hc : ((i : Int) + 1) < (many : Int) - 1
                · exact ⟨i + 1, by omega, by rw [if_pos hc]; rfl⟩
                · exact ⟨many - 1, by omega, by rw [if_neg hc]; omega⟩
              refine ⟨_, rfl, _, _, rfl, rfl, _, rfl, _, _, rfl, rfl, _, _, rfl, ?_⟩
              rw [heo]
              have hfx := kp19.get nfa nfc hf18
              have hwlx := kp19.get nwa nwc hwl18
              have hrx := kp19.get nra nrc hr18
              have hsdx := kp19.get nsda nsdc hsd18
              refine ⟨_, rfl, .inl ⟨rfl, _, SqL.of hfx⟩, _, rfl, _, rfl, _, rfl, _, rfl, _, rfl, (by decide : 5 ≤ sizeLine), fun ts hts => ?_⟩
              obtain ⟨ntsa, ntsc⟩ := hS19.ne hts
              have ntf : ts ≠ f := fun e => by rw [e, hfx] at hts; cases hts
              have ntw : ts ≠ wl := fun e => by rw [e, hwlx] at hts; cases hts
              have sT : Same H19 (L2.upd H19 ts (.tup [v, iV i, iV o, .ref r, .ref sd])) := Same.new hts
              have hts' : (L2.upd H19 ts (.tup [v, iV i, iV o, .ref r, .ref sd])) ts = some (.tup [v, iV i, iV o, .ref r, .ref sd]) := upd_same
              have kE : Kp a c H18 (L2.upd H19 ts (.tup [v, iV i, iV o, .ref r, .ref sd])) := Kp.new kp19 hts
              have SE := Strm.same sT hS19
              generalize L2.upd H19 ts (.tup [v, iV i, iV o, .ref r, .ref sd]) = HE at sT hts' kE SE
              have hfE := sT _ _ hfx
              have hwlE := sT _ _ hwlx
              have kHE : Kp a c H7 HE := Same.trans k18 kE
              have hlx : xs.length = sts.length := Paired.length hI6.at_
              have hlen6 := hI6.len
              have SE2 := Strm.put (o := .lst (xs ++ [.ref ts])) SE nfa nfc
              have hwlE2 : (L2.upd HE f (.lst (xs ++ [.ref ts]))) wl = some (.lst (ws ++ [v])) := by rw [upd_ne nwf]; exact hwlE
              have hfE2 : (L2.upd HE f (.lst (xs ++ [.ref ts]))) f = some (.lst (xs ++ [.ref ts])) := upd_same
              have sL7 : Same (hidL [wl, f, a, c] H7) (hidL [wl, f, a, c] (L2.upd HE f (.lst (xs ++ [.ref ts])))) := Same.trans (kHE.hidL (by simp) (by simp)) (hidL_put (by simp))
              have tle18 : Tle H18 (hidL [wl, f, a, c] (L2.upd HE f (.lst (xs ++ [.ref ts])))) := Tle.trans (kp_tle kE hS18) (Tle.trans (tle_lst hfE) (tle_hidL fun b hb => by
                simp only [List.mem_cons, List.not_mem_nil, or_false] at hb
                rcases hb with rfl | rfl | rfl | rfl
                · exact ⟨_, hwlE2⟩
                · exact ⟨_, hfE2⟩
                · exact SE2.two.1
                · exact SE2.two.2))
              have nw : StepAt K (hidL [wl, f, a, c] (L2.upd HE f (.lst (xs ++ [.ref ts])))) (.ref ts) ⟨k, i, o, l1.take m5⟩ := by
                refine ⟨⟨ts, r, sd, v, kvs, l2, rfl, SqT.of ?_, Dp.leq (Same.leq sL7) _ _ hv7, SqL.of ?_, ?_, z3, hN2, fun x hx => let ⟨kz, g1, g2⟩ := z4' x hx; ⟨kz, word_tle tle18 _ _ g1, g2⟩⟩, (wordOk_iff.mp hkok).2.2, hkd, hN1⟩
                · rw [hidL_not (by simp [ntsa, ntsc, ntf, ntw]), upd_ne ntf]
                  exact hts'
                · rw [hidL_not (by simp [nra, nrc, nrf, nrw]), upd_ne nrf]
                  exact sT _ _ hrx
                · rw [hidL_not (by simp [nsda, nsdc, nsdf, nsdw]), upd_ne nsdf]
                  exact sT _ _ hsdx
              have sL6 : Same (hidL [wl, f, a, c] H6) (hidL [wl, f, a, c] (L2.upd HE f (.lst (xs ++ [.ref ts])))) := Same.trans kL7 sL7
              have mem : ∀ {P : StepD → Prop}, (∀ st ∈ sts, P st) → P ⟨k, i, o, l1.take m5⟩ → ∀ st ∈ sts ++ [(⟨k, i, o, l1.take m5⟩ : StepD)], P st := fun g1 g2 st hst => (List.mem_append.mp hst).elim (g1 st) fun q => by rw [List.mem_singleton.mp q]; exact g2
              refine ⟨f, xs, .ref ts, rfl, rfl, hfE, ?_, _, _, _, _, _, _, _, n17 + 1, xs ++ [.ref ts], sts ++ [⟨k, i, o, l1.take m5⟩], ws ++ [v], ks ++ [k], rfl, Kp.over (Same.trans k7 kHE) hf, SE2, by omega, ⟨hfE2, paired_snoc (paired_map hI6.at_ fun _ _ q => StepAt.same sL6 q) nw, mem hI6.one (Nat.lt_succ_self i), mem hI6.other ho, mem hI6.words hkok, fun h => ?_, by rw [List.length_append, List.length_singleton]; omega⟩, hwlE2, paired_snoc (paired_map hws6 fun _ _ q => Dp.leq (Same.leq sL6) _ _ q) (Dp.leq (Same.leq sL7) _ _ hv7), ?_, by rw [List.length_append, List.length_singleton]; omega⟩
              · rw [hlx]
                exact small1000 (by omega)
              · rw [rowOf_snoc]
                by_cases e : i = h
                · subst e
                  rw [if_pos rfl, List.map_append, hrow]
                  show (ks ++ [k]).Nodup
                  rw [List.nodup_append]
                  refine ⟨?_, by simp, fun x hx y hy e => ?_⟩
                  · rw [← hrow]
                    exact hI6.nd i
                  · rw [List.mem_singleton.mp hy] at e
                    exact hnk (e ▸ hx)
                · rw [if_neg e]
                  exact hI6.nd h
              · rw [rowOf_snoc, if_pos rfl, List.map_append, hrow]
                rfl
            · rw [decide_eq_false (fun e => h0 (by have := V.int.inj e; omega))]
              refine ⟨_, rfl, _, rfl, a, c, n17 + 1, many, rfl, hS19, h1, by omega, by omega, fun o H20 ho kp20 hS20 => ?_⟩
              have kp19 : Kp a c H18 H20 := Same.trans kp19 kp20
              have hfx := kp19.get nfa nfc hf18
              have hwlx := kp19.get nwa nwc hwl18
              have hrx := kp19.get nra nrc hr18
              have hsdx := kp19.get nsda nsdc hsd18
              refine ⟨_, rfl, .inl ⟨rfl, _, SqL.of hfx⟩, _, rfl, _, rfl, _, rfl, _, rfl, _, rfl, (by decide : 5 ≤ sizeLine), fun ts hts => ?_⟩
              obtain ⟨ntsa, ntsc⟩ := hS20.ne hts
              have ntf : ts ≠ f := fun e => by rw [e, hfx] at hts; cases hts
              have ntw : ts ≠ wl := fun e => by rw [e, hwlx] at hts; cases hts
              have sT : Same H20 (L2.upd H20 ts (.tup [v, iV i, iV o, .ref r, .ref sd])) := Same.new hts
              have hts' : (L2.upd H20 ts (.tup [v, iV i, iV o, .ref r, .ref sd])) ts = some (.tup [v, iV i, iV o, .ref r, .ref sd]) := upd_same
              have kE : Kp a c H18 (L2.upd H20 ts (.tup [v, iV i, iV o, .ref r, .ref sd])) := Kp.new kp19 hts
              have SE := Strm.same sT hS20
              generalize L2.upd H20 ts (.tup [v, iV i, iV o, .ref r, .ref sd]) = HE at sT hts' kE SE
              have hfE := sT _ _ hfx
              have hwlE := sT _ _ hwlx
              have kHE : Kp a c H7 HE := Same.trans k18 kE
              have hlx : xs.length = sts.length := Paired.length hI6.at_
              have hlen6 := hI6.len
              have SE2 := Strm.put (o := .lst (xs ++ [.ref ts])) SE nfa nfc
              have hwlE2 : (L2.upd HE f (.lst (xs ++ [.ref ts]))) wl = some (.lst (ws ++ [v])) := by rw [upd_ne nwf]; exact hwlE
              have hfE2 : (L2.upd HE f (.lst (xs ++ [.ref ts]))) f = some (.lst (xs ++ [.ref ts])) := upd_same
              have sL7 : Same (hidL [wl, f, a, c] H7) (hidL [wl, f, a, c] (L2.upd HE f (.lst (xs ++ [.ref ts])))) := Same.trans (kHE.hidL (by simp) (by simp)) (hidL_put (by simp))
              have tle18 : Tle H18 (hidL [wl, f, a, c] (L2.upd HE f (.lst (xs ++ [.ref ts])))) := Tle.trans (kp_tle kE hS18) (Tle.trans (tle_lst hfE) (tle_hidL fun b hb => by
                simp only [List.mem_cons, List.not_mem_nil, or_false] at hb
                rcases hb with rfl | rfl | rfl | rfl
                · exact ⟨_, hwlE2⟩
                · exact ⟨_, hfE2⟩
                · exact SE2.two.1
                · exact SE2.two.2))
              have nw : StepAt K (hidL [wl, f, a, c] (L2.upd HE f (.lst (xs ++ [.ref ts])))) (.ref ts) ⟨k, i, o, l1.take m5⟩ := by
                refine ⟨⟨ts, r, sd, v, kvs, l2, rfl, SqT.of ?_, Dp.leq (Same.leq sL7) _ _ hv7, SqL.of ?_, ?_, z3, hN2, fun x hx => let ⟨kz, g1, g2⟩ := z4' x hx; ⟨kz, word_tle tle18 _ _ g1, g2⟩⟩, (wordOk_iff.mp hkok).2.2, hkd, hN1⟩
                · rw [hidL_not (by simp [ntsa, ntsc, ntf, ntw]), upd_ne ntf]
                  exact hts'
                · rw [hidL_not (by simp [nra, nrc, nrf, nrw]), upd_ne nrf]
                  exact sT _ _ hrx
                · rw [hidL_not (by simp [nsda, nsdc, nsdf, nsdw]), upd_ne nsdf]
                  exact sT _ _ hsdx
              have sL6 : Same (hidL [wl, f, a, c] H6) (hidL [wl, f, a, c] (L2.upd HE f (.lst (xs ++ [.ref ts])))) := Same.trans kL7 sL7
              have mem : ∀ {P : StepD → Prop}, (∀ st ∈ sts, P st) → P ⟨k, i, o, l1.take m5⟩ → ∀ st ∈ sts ++ [(⟨k, i, o, l1.take m5⟩ : StepD)], P st := fun g1 g2 st hst => (List.mem_append.mp hst).elim (g1 st) fun q => by rw [List.mem_singleton.mp q]; exact g2
              refine ⟨f, xs, .ref ts, rfl, rfl, hfE, ?_, _, _, _, _, _, _, _, n17 + 2, xs ++ [.ref ts], sts ++ [⟨k, i, o, l1.take m5⟩], ws ++ [v], ks ++ [k], rfl, Kp.over (Same.trans k7 kHE) hf, SE2, by omega, ⟨hfE2, paired_snoc (paired_map hI6.at_ fun _ _ q => StepAt.same sL6 q) nw, mem hI6.one (Nat.lt_succ_self i), mem hI6.other ho, mem hI6.words hkok, fun h => ?_, by rw [List.length_append, List.length_singleton]; omega⟩, hwlE2, paired_snoc (paired_map hws6 fun _ _ q => Dp.leq (Same.leq sL6) _ _ q) (Dp.leq (Same.leq sL7) _ _ hv7), ?_, by rw [List.length_append, List.length_singleton]; omega⟩
              · rw [hlx]
                exact small1000 (by omega)
              · rw [rowOf_snoc]
                by_cases e : i = h
                · subst e
                  rw [if_pos rfl, List.map_append, hrow]
                  show (ks ++ [k]).Nodup
                  rw [List.nodup_append]
                  refine ⟨?_, by simp, fun x hx y hy e => ?_⟩
                  · rw [← hrow]
                    exact hI6.nd i
                  · rw [List.mem_singleton.mp hy] at e
                    exact hnk (e ▸ hx)
                · rw [if_neg e]
                  exact hI6.nd h
              · rw [rowOf_snoc, if_pos rfl, List.map_append, hrow]
                rfl
      · rintro σ H5 ⟨x6, x7, x8, x9, x10, x11, x12, n5, xs, sts, ws, ks, rfl, k5, hS5, hn5, hI5, hwl5, hws5, hrow, hkl⟩
        rw [Int.toNat_natCast] at hn5 hI5
        exact ⟨_, _, _, _, _, _, _, _, _, n5, xs, sts, rfl, k5, hS5, by omega, hI5.lst, paired_map hI5.at_ fun _ _ q => StepAt.same (hidL_mono (S' := [f, a, c]) fun b hb => List.mem_cons_of_mem _ hb) q, hI5.one, hI5.other, hI5.words, hI5.nd, Nat.le_trans hI5.len (by omega)⟩
    · rintro σ H2 ⟨x4, x5, x6, x7, x8, x9, x10, x11, x12, n2, xs, sts, rfl, k2, hS2, hn2, hI⟩
      rw [Int.toNat_natCast] at hn2 hI
      have hlx : xs.length = sts.length := Paired.length hI.at_
      have hlen := hI.len
      refine ⟨_, rfl, _, rfl, a, c, f, n2, xs, rfl, hS2, SqL.of (by rw [hid_of nfa nfc]; exact hI.lst), by omega, by omega, fun ys p H3 hperm hp hp3 kp hS3 => ?_⟩
      have sL : Same (hidL [f, a, c] H2) (hid a c H3) := Same.trans (hidL_mono (S' := [a, c]) (fun b hb => List.mem_cons_of_mem _ hb)) (Same.trans (kp.hidL (S := [a, c]) (by simp) (by simp)) hidL_kp)
      obtain ⟨sts', hp', hpa⟩ := paired_perm hperm (paired_map hI.at_ fun _ _ q => StepAt.same sL q)
      obtain ⟨npa, npc⟩ := hS2.ne hp
      refine q p H3 sts' (n2 + xs.length) ⟨ys, SqL.of (by rw [hid_of npa npc]; exact hp3), hpa⟩ ⟨fun st hst => hI.one st (hp'.mem_iff.mp hst), fun st hst => hI.other st (hp'.mem_iff.mp hst), fun h => ((rowOf_perm hp').map _).nodup_iff.mpr (hI.nd h), by rw [hp'.length_eq]; omega⟩ (fun st hst => hI.words st (hp'.mem_iff.mp hst)) (by omega) (Same.trans k2 kp) (k2.free hp hS2) hS3

end
end FF
namespace FF
open PySem PySem.Spec PyProof.Rows L2
section
variable {w : World} {K : PySem.W.Frag} {mg : Str → Option Value} {base : Heap}
def sp_bad (K : PySem.W.Frag) (w : World) : Sp := fun vs H Q _ => ∃ (a c : Addr) (n many : Nat), vs = [.ref a, iV many] ∧ Strm H a c n ∧ 1 ≤ many ∧ many ≤ 7 ∧ n + 10 ≤ 1000000 ∧
  ∀ (p : Addr) (H' : Hp) (bad : List Nat) (n' : Nat), H' p = some (.lst (bad.map iV)) → bad.Nodup → (∀ b ∈ bad, 0 < b ∧ b < many) → n' ≤ n + 10 → Kp a c H H' → H p = none → Strm H' a c n' → Q (.ref p) H'
def sp_rules (K : PySem.W.Frag) (w : World) : Sp := fun vs H Q _ => ∃ (a c : Addr) (n : Nat), vs = [.ref a] ∧ Strm H a c n ∧ n + 10 ≤ 1000000 ∧
  ∀ (p : Addr) (H' : Hp) (R : List Str), H' p = some (.lst (R.map V.str)) → Names1 R → Kp a c H H' → H p = none → Strm H' a c (n + 6) → Q (.ref p) H'
theorem pool3 : Names1 ["hold", "look", "order", "r9", "other"] := ⟨by decide +kernel, by decide +kernel, by decide +kernel, by decide⟩

theorem sc_bad : FnScope ["_law_stream", "_law_many", "_law_some", "_law_stand"] ["_law_stream", "_law_many"] (defScope s__law_bad) := ⟨rfl, rfl, rfl, by decide +kernel, rfl, by decide +kernel, by decide +kernel⟩
theorem ok_bad (T : Tx K mg)  (D : Df K mg "_law_bad" s__law_bad) (c__law_draw : Cal w K mg base CX0 1 "_law_draw" ["_law_stream", "_law_many"] (sp_draw K w)) : Cal w K mg base CX0 2 "_law_bad" ["_law_stream", "_law_many"] (sp_bad K w) := by
  have nd := sc_bad.nd
  refine D.ok (N := ["_law_stream", "_law_many", "_law_some", "_law_stand"]) sc_bad (fun vs H Q E h => ?_) (fun _ _ _ _ _ _ us hl => match us, hl with | [_, _], _ => rfl) (fun cdv A outer s H vs Q E hr h => ?_)
  · obtain ⟨a, c, n, many, rfl, hS, h1, h7, hn, q⟩ := h
    rfl
  · have hu := hu_of hr
    obtain ⟨a, c, n, many, rfl, hS, h1, h7, hn, q⟩ := h
    refine ⟨_, PSs.nox (pss_cons (ps_setLc (i := 2) (own := [("_law_stand", 3)]) (by rfl) nd rfl rfl (sw_true rfl rfl rfl (by decide +kernel)) (pi_range1 (by rfl) T.n_range (pa_cons (pv 1) pa_nil)) (blkOk_by (own := [("_law_stand", 3)]) (N := ["_law_stream", "_law_many", "_law_some", "_law_stand"]) (sc := defScope s__law_bad) (by decide +kernel)) (fun _ _ _ _ _ => (pg_name (i := 3) nd rfl (by first | exact Or.inl rfl | exact Or.inr rfl))) (fun _ _ _ _ _ => (pts_one (PW.pt (pw_and (pt_cmpR op_eq (pe_cal rfl c__law_draw (hr.mono (by first | decide | (simp only [Nat.add_eq]; omega))) pass0 (pa_cons (pv 0) (pa_cons pe_int pa_nil))) pe_int (nomark _)) (pw_and1 (pt_cmpR op_gt (pv 3) pe_int (nomark _))))))) (fun _ _ _ _ _ => (pv 3)))
      (pss_one (ps_ret (pe_ifExp (PW.pt (pw_and (pt_cmpR op_gt (pe_cal rfl c__law_draw (hr.mono (by first | decide | (simp only [Nat.add_eq]; omega))) pass0 (pa_cons (pv 0) (pa_cons pe_int pa_nil))) pe_int (nomark _)) (pw_and (pt_cmpR op_gt (pv 1) pe_int (nomark _)) (pw_and1 (pt_cmpR op_notIn_seq (pe_op op_sub (pv 1) pe_int) (pv 2) (by with_unfolding_all rfl)))))) (pe_op op_cat (pv 2) (pe_lst (pa_cons (pe_op op_sub (pv 1) pe_int) pa_nil))) (pv 2))))), ?_⟩
    refine ⟨_, rfl, many, rfl, by omega, by omega, fun D hD => ?_⟩
    obtain ⟨nDa, nDc⟩ := hS.ne hD
    refine lc_it walk_range (fun i H2 => ∃ L : List Nat, H2 D = some (.lst (L.map iV)) ∧ L.Nodup ∧ (∀ x ∈ L, 0 < x ∧ x < i) ∧ L.length ≤ i ∧ Strm H2 a c (n + i) ∧ Kp a c H H2) ⟨[], upd_same, List.nodup_nil, (fun _ z => nomatch z), Nat.le_refl _, Strm.same (Same.new hD) hS, Kp.new (Same.refl _) hD⟩ (fun _ _ _ _ => trivial) (fun i x H2 H3 hi ⟨L, z1, z2, z3, z4, z5, z6⟩ ⟨e, ex⟩ => ?_) fun H2 ⟨L, z1, z2, z3, z4, z5, z6⟩ => ?_
    · subst e
      rw [Int.toNat_natCast] at hi
      have ex : x = iV i := ex.trans (show V.int (0 + (i : Int)) = V.int (i : Int) by rw [Int.zero_add])
      subst ex
      refine ⟨rfl, _, rfl, a, c, n + i, 5, rfl, z5, by decide, by decide, by omega, fun d H4 hd kp hS4 => ⟨rfl, _, rfl, ?_⟩⟩
      have z14 := kp.get nDa nDc z1
      have k4 : Kp a c H H4 := Same.trans z6 kp
      have skip : ∃ L : List Nat, H4 D = some (.lst (L.map iV)) ∧ L.Nodup ∧ (∀ x ∈ L, 0 < x ∧ x < i + 1) ∧ L.length ≤ i + 1 ∧ Strm H4 a c (n + (i + 1)) ∧ Kp a c H H4 := ⟨L, z14, z2, fun x hx => ⟨(z3 x hx).1, Nat.lt_succ_of_lt (z3 x hx).2⟩, Nat.le_succ_of_le z4, hS4, k4⟩
      by_cases h0 : d = 0
      · subst h0
        rw [decide_eq_true (show V.int ((0 : Nat) : Int) = V.int 0 from rfl)]
        refine ⟨_, rfl, _, _, rfl, rfl, _, rfl, ?_⟩
        by_cases hp : (0 : Int) < i
        · rw [decide_eq_true hp]
          refine ⟨_, rfl, _, z14, ?_, L ++ [i], by rw [upd_same, List.map_append]; rfl, ?_, fun x hx => ?_, by rw [List.length_append, List.length_singleton]; omega, Strm.put hS4 nDa nDc, Kp.over k4 hD⟩
          · rw [List.length_map]
            exact small1000 (by omega)
          · rw [List.nodup_append]
            refine ⟨z2, by simp, fun x hx y hy e => ?_⟩
            rw [List.mem_singleton.mp hy] at e
            have := (z3 x hx).2
            omega
          · rcases List.mem_append.mp hx with hx | hx
            · exact ⟨(z3 x hx).1, Nat.lt_succ_of_lt (z3 x hx).2⟩
            · rw [List.mem_singleton.mp hx]
              exact ⟨by omega, Nat.lt_succ_self i⟩
        · rw [decide_eq_false hp]
          exact skip
      · rw [decide_eq_false (fun e => h0 (by have := V.int.inj e; omega))]
        exact skip
    · rw [Int.toNat_natCast] at z3 z4 z5
      have hL0 : Kp a c H H2 := z6
      refine ⟨_, rfl, a, c, n + many, 3, rfl, z5, by decide, by decide, by omega, fun d H3 hd kp hS3 => ?_⟩
      have z13 := kp.get nDa nDc z1
      have k3 : Kp a c H H3 := Same.trans z6 kp
      have plain : Q (.ref D) H3 := q D H3 L (n + many + 1) z13 z2 z3 (by omega) k3 hD hS3
      refine ⟨_, _, rfl, rfl, _, rfl, ?_⟩
      by_cases hd0 : (0 : Int) < d
      · rw [decide_eq_true hd0]
        refine ⟨_, rfl, _, _, rfl, rfl, _, rfl, ?_⟩
        by_cases hm : (1 : Int) < many
        · rw [decide_eq_true hm]
          refine ⟨_, rfl, _, _, rfl, rfl, _, rfl, D, _, rfl, .inl (SqL.of z13), rfl, flat_nats L, _, rfl, ?_⟩
          obtain ⟨m1, rfl⟩ : ∃ m1, many = m1 + 1 := ⟨many - 1, by omega⟩
          have em : (fun i j : Int => V.int (i - j)) ((m1 + 1 : Nat) : Int) 1 = iV m1 := by
            show V.int (((m1 + 1 : Nat) : Int) - 1) = V.int (m1 : Int)
            congr 1
            omega
          rw [em]
          rw [show (if true = true then !inV (iV m1) (L.map iV) else inV (iV m1) (L.map iV)) = !decide (m1 ∈ L) by rw [inV_nat]; rfl]
          by_cases hin : m1 ∈ L
          · rw [decide_eq_true hin]
            exact ⟨_, rfl, plain⟩
          · rw [decide_eq_false hin]
            refine ⟨_, rfl, _, rfl, _, _, rfl, rfl, (by decide : 1 ≤ sizeLine), fun p1 hp1 => ?_⟩
            have s4 : Same H3 (L2.upd H3 p1 (.lst [iV m1])) := Same.new hp1
            have hp1' : (L2.upd H3 p1 (.lst [iV m1])) p1 = some (.lst [iV m1]) := upd_same
            have k4 : Kp a c H (L2.upd H3 p1 (.lst [iV m1])) := Kp.new k3 hp1
            have hS4 := Strm.same s4 hS3
            rw [show (fun i j : Int => V.int (i - j)) ((m1 + 1 : Nat) : Int) 1 = iV m1 from em]
            generalize L2.upd H3 p1 (.lst [iV m1]) = H4 at s4 hp1' k4 hS4
            refine ⟨D, p1, _, _, rfl, rfl, s4 _ _ z13, hp1', ?_, fun p hp => ?_⟩
            · rw [List.length_map]
              exact Nat.le_of_lt (small1000 (by simp; omega))
            · refine q p _ (L ++ [m1]) (n + (m1 + 1) + 1) (by rw [upd_same, List.map_append]; rfl) ?_ ?_ (by omega) (Kp.new k4 hp) (k4.free hp hS4) (Strm.same (Same.new hp) hS4)
              · rw [List.nodup_append]
                refine ⟨z2, by simp, fun x hx y hy e => ?_⟩
                rw [List.mem_singleton.mp hy] at e
                exact hin (e ▸ hx)
              · intro b hb
                rcases List.mem_append.mp hb with hb | hb
                · exact z3 b hb
                · rw [List.mem_singleton.mp hb]
                  exact ⟨by omega, Nat.lt_succ_self m1⟩
        · rw [decide_eq_false hm]
          exact ⟨_, rfl, plain⟩
      · rw [decide_eq_false hd0]
        exact ⟨_, rfl, plain⟩

theorem sc_rules : FnScope ["_law_stream"] ["_law_stream"] (defScope s__law_rules) := ⟨rfl, rfl, rfl, by decide +kernel, rfl, by decide +kernel, by decide +kernel⟩
theorem ok_rules (T : Tx K mg)  (D : Df K mg "_law_rules" s__law_rules) (c__law_mixed : Cal w K mg base CX0 2 "_law_mixed" ["_law_stream", "_law_some"] (sp_mixed K w)) (c__law_draw : Cal w K mg base CX0 1 "_law_draw" ["_law_stream", "_law_many"] (sp_draw K w)) : Cal w K mg base CX0 3 "_law_rules" ["_law_stream"] (sp_rules K w) := by
  have nd := sc_rules.nd
  refine D.ok (N := ["_law_stream"]) sc_rules (fun vs H Q E h => ?_) (fun _ _ _ _ _ _ us hl => match us, hl with | [_], _ => rfl) (fun cdv A outer s H vs Q E hr h => ?_)
  · obtain ⟨a, c, n, rfl, hS, hn, q⟩ := h
    rfl
  · have hu := hu_of hr
    obtain ⟨a, c, n, rfl, hS, hn, q⟩ := h
    refine ⟨_, PSs.nox (pss_one (ps_ret (pe_slice sl_list (pe_cal rfl c__law_mixed (hr.mono (by first | decide | (simp only [Nat.add_eq]; omega))) pass0 (pa_cons (pv 0) (pa_cons (pe_lst (pa_cons pe_str (pa_cons pe_str (pa_cons pe_str (pa_cons pe_str (pa_cons pe_str pa_nil)))))) pa_nil))) po_none (po_some (pe_cal rfl c__law_draw (hr.mono (by first | decide | (simp only [Nat.add_eq]; omega))) pass0 (pa_cons (pv 0) (pa_cons pe_int pa_nil))))))), ?_⟩
    refine ⟨_, rfl, (by decide : 5 ≤ sizeLine), fun pl hpl => ?_⟩
    obtain ⟨s8, q8, hS8⟩ := newL (K := K) (xs := [.str "hold", .str "look", .str "order", .str "r9", .str "other"]) hS hpl
    have k8 : Kp a c H (L2.upd H pl (.lst [.str "hold", .str "look", .str "order", .str "r9", .str "other"])) := Same.kp s8
    generalize L2.upd H pl (.lst [.str "hold", .str "look", .str "order", .str "r9", .str "other"]) = H8 at s8 q8 hS8 k8
    refine ⟨a, c, pl, n, _, rfl, hS8, q8, (by decide : 5 ≤ 60), (show n + 5 ≤ 1000000 by omega), fun ys pm H9 hperm hpm hpm9 kp9 hS9 => ?_⟩
    obtain ⟨l1, rfl, hl1⟩ := perm_unmap (f := V.str) (l := ["hold", "look", "order", "r9", "other"]) hperm rfl
    have hS9 : Strm H9 a c (n + 5) := hS9
    obtain ⟨npma, npmc⟩ := hS8.ne hpm
    refine ⟨_, rfl, a, c, n + 5, 4, rfl, hS9, by decide, by decide, by omega, fun d H10 hd kp10 hS10 => ?_⟩
    have hpm10 := kp10.get npma npmc hpm9
    refine ⟨_, rfl, pm, _, rfl, SqL.of hpm10, fun p hp => ?_⟩
    rw [cutV_take, ← List.map_take]
    have k10 : Kp a c H H10 := Same.trans k8 (Same.trans kp9 kp10)
    exact q p _ _ upd_same ((pool3.perm hl1).take d) (Kp.new k10 hp) (k10.free hp hS10) (Strm.same (Same.new hp) hS10)

/-- what is hidden stands -/
def Ex (S : List Addr) (H : Hp) : Prop := ∀ b ∈ S, H b ≠ none
theorem Ex.not {S : List Addr} {H H1 : Hp} {p : Addr} (e : Ex S H) (s : Same H H1) (h : H1 p = none) : p ∉ S := fun hm => e p hm (Same.free s h)
theorem hidL_new {S : List Addr} {H : Hp} {p : Addr} {o : HO} (h : p ∉ S) (e : H p = some o) : hidL S H p = some o := by rw [hidL_not h]; exact e
/-- an entry of the law's own table -/
def LEnt (K : PySem.W.Frag) (H : Hp) (v : V) (st : StepD) : Prop := ∃ (s r : Addr) (wv : V), v = .ref s ∧ SqT K H s [wv, iV st.other, .ref r] ∧ Dp K H wv st.k.data ∧ SqL K H r (st.bars.map V.str)
theorem LEnt.leq {H H' : Hp} {v : V} {st : StepD} (e : Leq H H') (h : LEnt K H v st) : LEnt K H' v st := let ⟨s, r, wv, h1, h2, h3, h4⟩ := h; ⟨s, r, wv, h1, SqT.leq e h2, Dp.leq e _ _ h3, SqL.leq e h4⟩
def LRow (K : PySem.W.Frag) (H : Hp) (r : Addr) (sts : List StepD) : Prop := ∃ xs, SqL K H r xs ∧ Paired (LEnt K H) xs sts
theorem LRow.leq {H H' : Hp} {r : Addr} {sts : List StepD} (e : Leq H H') (h : LRow K H r sts) : LRow K H' r sts := let ⟨xs, h1, h2⟩ := h; ⟨xs, SqL.leq e h1, paired_map h2 fun _ _ q => LEnt.leq e q⟩
/-- the law's own table -/
def LTab (K : PySem.W.Frag) (H : Hp) (p : Addr) (many : Nat) (sts : List StepD) : Prop := ∃ rs : List Addr, SqL K H p (rs.map V.ref) ∧ rs.length = many ∧ ∀ h r, rs[h]? = some r → LRow K H r (rowOf h sts)
theorem LTab.leq {H H' : Hp} {p : Addr} {many : Nat} {sts : List StepD} (e : Leq H H') (h : LTab K H p many sts) : LTab K H' p many sts := let ⟨rs, h1, h2, h3⟩ := h; ⟨rs, SqL.leq e h1, h2, fun i r hr => LRow.leq e (h3 i r hr)⟩
theorem hidL_but {S : List Addr} {H H' : Hp} {D : Addr} (hD : D ∈ S) (h : ∀ b o, b ≠ D → H b = some o → H' b = some o) : Same (hidL S H) (hidL S H') := fun b o q => by
  obtain ⟨h1, h2⟩ := hidL_some q
  rw [hidL_not h1]
  exact h b o (fun e => h1 (by rw [e]; exact hD)) h2
theorem wipe_get {σ : L2.St} : ∀ (vs : List Nat) (j : Nat), (wipe σ vs)[j]? = if j ∈ vs then (σ[j]?).map (fun _ => none) else σ[j]?
  | [], j => by simp [wipe]
  | v :: vs, j => by
    show ((wipe σ vs).set v none)[j]? = _
    rw [List.getElem?_set]
    by_cases e : v = j
    · subst e
      rw [if_pos rfl, if_pos (List.mem_cons_self), wipe_length]
      by_cases hl : v < σ.length
      · rw [if_pos hl, List.getElem?_eq_getElem hl]
        rfl
      · rw [if_neg hl, List.getElem?_eq_none (by omega)]
        rfl
    · rw [if_neg e, wipe_get vs j]
      by_cases hj : j ∈ vs
      · rw [if_pos hj, if_pos (List.mem_cons_of_mem _ hj)]
      · rw [if_neg hj, if_neg (fun z => (List.mem_cons.mp z).elim (fun q => e q.symm) hj)]
theorem wipe_set {σ : L2.St} {vs : List Nat} {i : Nat} {v : Option V} (h : i ∈ vs) : wipe (σ.set i v) vs = wipe σ vs := by
  apply List.ext_getElem?
  intro j
  rw [wipe_get, wipe_get]
  by_cases hj : j ∈ vs
  · rw [if_pos hj, if_pos hj, List.getElem?_set]
    by_cases e : i = j
    · subst e
      rw [if_pos rfl]
      by_cases hl : i < σ.length
      · rw [if_pos hl, List.getElem?_eq_getElem hl]
        rfl
      · rw [if_neg hl, List.getElem?_eq_none (by omega)]
    · rw [if_neg e]
  · have e : i ≠ j := fun q => hj (q ▸ h)
    rw [if_neg hj, if_neg hj, List.getElem?_set, if_neg e]
theorem wipe_wipe {σ : L2.St} {vs : List Nat} : wipe (wipe σ vs) vs = wipe σ vs := by
  apply List.ext_getElem?
  intro j
  rw [wipe_get, wipe_get]
  by_cases hj : j ∈ vs
  · rw [if_pos hj, if_pos hj]
    cases σ[j]? <;> rfl
  · rw [if_neg hj, if_neg hj]
theorem wipe5 {σ : L2.St} {vs : List Nat} {a b c d e : Nat} {v1 v2 v3 v4 v5 : Option V} (ha : a ∈ vs) (hb : b ∈ vs) (hc : c ∈ vs) (hd : d ∈ vs) (he : e ∈ vs) : wipe ((((((wipe σ vs).set a v1).set b v2).set c v3).set d v4).set e v5) vs = wipe σ vs := by
  rw [wipe_set he, wipe_set hd, wipe_set hc, wipe_set hb, wipe_set ha, wipe_wipe]
theorem wipe3 {σ : L2.St} {vs : List Nat} {a b c : Nat} {v1 v2 v3 : Option V} (ha : a ∈ vs) (hb : b ∈ vs) (hc : c ∈ vs) : wipe ((((wipe σ vs).set a v1).set b v2).set c v3) vs = wipe σ vs := by
  rw [wipe_set hc, wipe_set hb, wipe_set ha, wipe_wipe]
theorem wipe2 {σ : L2.St} {vs : List Nat} {a b : Nat} {v1 v2 : Option V} (ha : a ∈ vs) (hb : b ∈ vs) : wipe (((wipe σ vs).set a v1).set b v2) vs = wipe σ vs := by
  rw [wipe_set hb, wipe_set ha, wipe_wipe]
def sp_table (K : PySem.W.Frag) (w : World) : Sp := fun vs H Q _ => ∃ (s : Addr) (S : List Addr) (many : Nat) (sts : List StepD), vs = [iV many, .ref s] ∧ Ex S H ∧ StepsAt K (hidL S H) s sts ∧ many ≤ 60 ∧ sts.length ≤ 60 ∧
  ∀ (p : Addr) (H' : Hp), Same H H' → H p = none → LTab K (hidL S H') p many sts → Q (.ref p) H'

theorem sc_table : FnScope ["_law_many", "_law_steps_here", "_law_here", "_law_word_here", "_law_one", "_law_other", "_law_rules_here", "_law_sights"] ["_law_many", "_law_steps_here"] (defScope s__law_table) := ⟨rfl, rfl, rfl, by decide +kernel, rfl, by decide +kernel, by decide +kernel⟩
theorem ok_table (T : Tx K mg)  (D : Df K mg "_law_table" s__law_table)  : Cal w K mg base CX0 1 "_law_table" ["_law_many", "_law_steps_here"] (sp_table K w) := by
  have nd := sc_table.nd
  refine D.ok (N := ["_law_many", "_law_steps_here", "_law_here", "_law_word_here", "_law_one", "_law_other", "_law_rules_here", "_law_sights"]) sc_table (fun vs H Q E h => ?_) (fun _ _ _ _ _ _ us hl => match us, hl with | [_, _], _ => rfl) (fun cdv A outer s H vs Q E hr h => ?_)
  · obtain ⟨sa, S, many, sts, rfl, hE, ⟨xs, hs, hp⟩, h60, hf, q⟩ := h
    rfl
  · have hu := hu_of hr
    obtain ⟨sa, S, many, sts, rfl, hE, ⟨xs, hs, hp⟩, h60, hf, q⟩ := h
    refine ⟨_, PSs.nox (pss_one (ps_ret (pe_lc (own := [("_law_here", 2)]) (by rfl) nd (pi_range1 (by rfl) T.n_range (pa_cons (pv 0) pa_nil)) (blkOk_by (own := [("_law_here", 2)]) (N := ["_law_many", "_law_steps_here", "_law_here", "_law_word_here", "_law_one", "_law_other", "_law_rules_here", "_law_sights"]) (sc := defScope s__law_table) (by decide +kernel)) (fun _ _ _ _ _ => (pg_name (i := 2) nd rfl (by first | exact Or.inl rfl | exact Or.inr rfl))) (fun _ _ _ _ _ => pts_nil) (fun _ _ _ _ _ => (pe_lc (own := [("_law_word_here", 3), ("_law_one", 4), ("_law_other", 5), ("_law_rules_here", 6), ("_law_sights", 7)]) (by rfl) nd (show PI _ _ _ (iList K _) from pi_list (pv 1)) (by refine blkOk_by (own := [("_law_word_here", 3), ("_law_one", 4), ("_law_other", 5), ("_law_rules_here", 6), ("_law_sights", 7)]) (N := ["_law_many", "_law_steps_here", "_law_here", "_law_word_here", "_law_one", "_law_other", "_law_rules_here", "_law_sights"]) ?_; kernel_rfl) (fun _ _ _ _ _ => (show PG _ _ (gTup K 5 _) from pg_tup rfl (pgs_cons (pg_name (i := 3) nd rfl (by first | exact Or.inl rfl | exact Or.inr rfl)) (pgs_cons (pg_name (i := 4) nd rfl (by first | exact Or.inl rfl | exact Or.inr rfl)) (pgs_cons (pg_name (i := 5) nd rfl (by first | exact Or.inl rfl | exact Or.inr rfl)) (pgs_cons (pg_name (i := 6) nd rfl (by first | exact Or.inl rfl | exact Or.inr rfl)) (pgs_cons (pg_name (i := 7) nd rfl (by first | exact Or.inl rfl | exact Or.inr rfl)) pgs_nil))))))) (fun _ _ _ _ _ => (pts_one (pt_cmpR op_eq (pv 4) (pv 2) (nomark _)))) (fun _ _ _ _ _ => (pe_tup (pa_cons (pv 3) (pa_cons (pv 5) (pa_cons (pv 6) pa_nil)))))))))), ?_⟩
    have lx : xs.length = sts.length := Paired.length hp
    refine ⟨_, rfl, many, rfl, by omega, by omega, fun D hD => ?_⟩
    refine lc_it walk_range (fun i H1 => ∃ rs : List Addr, H1 D = some (.lst (rs.map V.ref)) ∧ rs.length = i ∧ Same H H1 ∧ ∀ h r, rs[h]? = some r → LRow K (hidL (D :: S) H1) r (rowOf h sts)) ⟨[], upd_same, rfl, Same.new hD, fun _ _ z => nomatch z⟩ (fun _ _ _ _ => trivial) (fun i x H1x H1 hi ⟨rs, hD1, hlz, s1, hrs⟩ ⟨e, ex⟩ => ?_) (fun H1 ⟨rs, hD1, hlz, s1, hrs⟩ => ?_)
    · subst e
      rw [Int.toNat_natCast] at hi
      have ex : x = iV i := ex.trans (show V.int (0 + (i : Int)) = V.int (i : Int) by rw [Int.zero_add])
      subst ex
      refine ⟨rfl, _, rfl, sa, rfl, ⟨_, SqL.leq (Leq.trans (Same.leq hidL_le) (Same.leq s1)) hs⟩, fun D2 hD2 => ?_⟩
      have hD20 : H D2 = none := Same.free s1 hD2
      refine lc_it (walk_list (xs := xs)) (fun j H3 => ∃ acc, H3 D2 = some (.lst acc) ∧ acc.length ≤ j ∧ Paired (LEnt K (hidL (D2 :: D :: S) H3)) acc (rowOf i (sts.take j)) ∧ Same H1 H3) ⟨[], upd_same, Nat.le_refl _, .nil, Same.new hD2⟩ (fun j H3 _ ⟨_, _, _, _, s3⟩ => SqL.leq (Leq.trans (Same.leq hidL_le) (Same.leq (Same.trans s1 s3))) hs) (fun j x H3x H3 hj ⟨acc, z1, z2, z3, s3⟩ ⟨e, hx⟩ => ?_) fun H3 ⟨acc, z1, z2, z3, s3⟩ => ?_
      · subst e
        generalize eσ : wipe _ _ = σ0
        have eσ : σ0 = [some (iV many), some (.ref sa), some (iV i), none, none, none, none, none] := eσ.symm.trans rfl
        subst eσ
        obtain ⟨st, hst, ⟨s0, r0, sd0, wv, kvs, sides, rfl, g1, g2, g3, _⟩, _⟩ := paired_get hp hx
        have s03 := Same.trans s1 s3
        have f3 : Same (hidL S H) (hidL (D2 :: D :: S) H3) := Same.trans (hidL_fresh (p := D) (Same.hidL s1) hD) (fun b o q => by
          obtain ⟨h1, h2⟩ := hidL_some q
          rw [hidL_not (by
            intro hm
            rcases List.mem_cons.mp hm with e | hm
            · rw [e, hD2] at h2
              cases h2
            · exact h1 hm)]
          exact s3 _ _ h2)
        refine ⟨s0, _, rfl, SqT.leq (Leq.trans (Same.leq hidL_le) (Same.leq s03)) g1, rfl, _, _, rfl, _, _, rfl, _, _, rfl, _, _, rfl, _, _, rfl, rfl, rfl, ?_⟩
        refine ⟨_, rfl, _, rfl, rfl, _, rfl, ?_⟩
        rw [take_snoc hst, rowOf_snoc]
        by_cases h1 : st.one = i
        · rw [if_pos h1, decide_eq_true (show iV st.one = iV i by rw [h1])]
          refine ⟨_, rfl, _, rfl, _, rfl, (by decide : 3 ≤ sizeLine), fun tp htp => ?_⟩
          have s4 : Same H3 (L2.upd H3 tp (.tup [wv, iV st.other, .ref r0])) := Same.new htp
          have e4 : (L2.upd H3 tp (.tup [wv, iV st.other, .ref r0])) tp = some (.tup [wv, iV st.other, .ref r0]) := upd_same
          have ntS : tp ∉ D2 :: D :: S := by
            intro hm
            rcases List.mem_cons.mp hm with e | hm
            · rw [e, z1] at htp
              cases htp
            rcases List.mem_cons.mp hm with e | hm
            · rw [e, s3 _ _ hD1] at htp
              cases htp
            · exact hE.not s03 htp hm
          generalize L2.upd H3 tp (.tup [wv, iV st.other, .ref r0]) = H4 at s4 e4
          refine ⟨acc, s4 _ _ z1, small1000 (by omega), _, upd_same, by rw [List.length_append, List.length_singleton]; omega, ?_, Same.over (Same.trans s3 s4) hD2⟩
          have f4 : Same (hidL (D2 :: D :: S) H3) (hidL (D2 :: D :: S) (L2.upd H4 D2 (.lst (acc ++ [.ref tp])))) := Same.trans (Same.hidL s4) (hidL_put (by simp))
          refine paired_snoc (paired_map z3 fun _ _ q => LEnt.leq (Same.leq f4) q) ⟨tp, r0, wv, rfl, SqT.of (hidL_put (p := D2) (by simp) _ _ (hidL_new ntS e4)), Dp.leq (Same.leq (Same.trans f3 f4)) _ _ g2, SqL.leq (Same.leq (Same.trans f3 f4)) g3⟩
        · rw [if_neg h1, decide_eq_false (fun e => h1 (by have := V.int.inj e; omega))]
          exact ⟨acc, z1, Nat.le_succ_of_le z2, z3, s3⟩
      · rw [lx, List.take_length] at z3
        have nDD : D2 ≠ D := fun e => by
          rw [e, hD1] at hD2
          cases hD2
        refine ⟨_, s3 _ _ hD1, by rw [List.length_map, hlz]; exact small1000 (by omega), rs ++ [D2], by rw [upd_same, List.map_append]; rfl, by rw [List.length_append, List.length_singleton, hlz], Same.over (Same.trans s1 s3) hD, fun h r hr => ?_⟩
        have f5 : Same (hidL (D :: S) H3) (hidL (D :: S) (L2.upd H3 D (.lst (rs.map V.ref ++ [.ref D2])))) := hidL_put (by simp)
        rcases Nat.lt_or_ge h rs.length with lt | ge
        · rw [List.getElem?_append_left lt] at hr
          exact LRow.leq (Same.leq (Same.trans (Same.hidL s3) f5)) (hrs h r hr)
        · have e8 : h = i := by
            have := (List.getElem?_eq_some_iff.mp hr).1
            rw [List.length_append, List.length_singleton] at this
            omega
          subst e8
          rw [List.getElem?_append_right ge, hlz, Nat.sub_self] at hr
          cases hr
          refine LRow.leq (Same.leq f5) ⟨acc, SqL.of (hidL_new ?_ z1), paired_map z3 fun _ _ q => LEnt.leq (Same.leq (hidL_mono fun b hb => List.mem_cons_of_mem _ hb)) q⟩
          intro hm
          rcases List.mem_cons.mp hm with e | hm
          · exact nDD e
          · exact hE.not s1 hD2 hm
    · rw [Int.toNat_natCast] at hlz
      exact q D H1 s1 hD ⟨rs, SqL.of (hidL_new (hE.not (Same.refl _) hD) hD1), hlz, fun h r hr => LRow.leq (Same.leq (hidL_mono fun b hb => List.mem_cons_of_mem _ hb)) (hrs h r hr)⟩

end
end FF
namespace FF
open PySem PySem.Spec PyProof.Rows L2
section
variable {w : World} {K : PySem.W.Frag} {mg : Str → Option Value} {base : Heap}
/-- a pair of a word and a stand -/
def NEnt (K : PySem.W.Frag) (H : Hp) (q : Addr) (m : Wd × Nat) : Prop := ∃ wv, SqT K H q [wv, iV m.2] ∧ Dp K H wv m.1.data
theorem NEnt.tle {H H' : Hp} {q : Addr} {m : Wd × Nat} (t : Tle H H') (h : NEnt K H q m) : NEnt K H' q m := let ⟨wv, h1, h2⟩ := h; ⟨wv, SqT.tle t h1, word_tle t _ _ h2⟩
def NextAt (K : PySem.W.Frag) (H : Hp) (p : Addr) (r : Row) : Prop := ∃ ps : List Addr, H p = some (.lst (ps.map V.ref)) ∧ Paired (NEnt K H) ps r
theorem NextAt.same {H H' : Hp} {p : Addr} {r : Row} (s : Same H H') (h : NextAt K H p r) : NextAt K H' p r := let ⟨ps, h1, h2⟩ := h; ⟨ps, s _ _ h1, paired_map h2 fun _ _ q => NEnt.tle (Same.tle s) q⟩
/-- what the law's own defs ask of a table and rules -/
structure TabIn (K : PySem.W.Frag) (H : Hp) (t l : Addr) (many : Nat) (sts : List StepD) (R : List Str) : Prop where
  tab : LTab K H t many sts
  rl : SqL K H l (R.map V.str)
  rf : R.length ≤ 60
  ok : StepsOk many sts
  bars : ∀ st ∈ sts, st.bars.length ≤ 60
  words : ∀ st ∈ sts, wordOk st.k = true
  pos : 1 ≤ many
  few : many ≤ 60
theorem TabIn.leq {H H' : Hp} {t l : Addr} {many : Nat} {sts : List StepD} {R : List Str} (e : Leq H H') (h : TabIn K H t l many sts R) : TabIn K H' t l many sts R := ⟨LTab.leq e h.tab, SqL.leq e h.rl, h.rf, h.ok, h.bars, h.words, h.pos, h.few⟩
theorem TabIn.gr {H : Hp} {t l : Addr} {many : Nat} {sts : List StepD} {R : List Str} (h : TabIn K H t l many sts R) : GrOk (grOf many sts R) := grOf_ok h.ok h.pos
theorem TabIn.lay {H : Hp} {t l : Addr} {many : Nat} {sts : List StepD} {R : List Str} (h : TabIn K H t l many sts R) : GrLay (grOf many sts R) := fun s k u hm => by
  rcases Nat.lt_or_ge s many with lt | ge
  · rw [grOf_row lt] at hm
    obtain ⟨st, hst, e⟩ := List.mem_map.mp hm
    cases e
    exact h.words st (List.mem_filter.mp (List.mem_filter.mp hst).1).1
  · rw [row_out (by rw [grOf_len]; exact ge)] at hm
    cases hm
def sp_next (K : PySem.W.Frag) (w : World) : Sp := fun vs H Q _ => ∃ (t l : Addr) (many : Nat) (sts : List StepD) (R : List Str) (h : Nat), vs = [.ref t, .ref l, iV h] ∧ TabIn K H t l many sts R ∧ h < many ∧
  ∀ (p : Addr) (H' : Hp), Same H H' → H p = none → NextAt K H' p (row (grOf many sts R) h) → Q (.ref p) H'
theorem inV_str {b : Str} {R : List Str} : inV (.str b) (R.map V.str) = decide (b ∈ R) := by
  unfold inV
  rw [List.any_map]
  by_cases h : b ∈ R
  · rw [decide_eq_true h, List.any_eq_true]
    exact ⟨b, h, by simp [eqV]⟩
  · rw [decide_eq_false h, List.any_eq_false]
    intro x hx e
    have : x = b := by simpa [eqV] using e
    exact h (this ▸ hx)
theorem flat_strs (R : List Str) : (R.map V.str).all flatV = true := by rw [List.all_map, List.all_eq_true]; intro _ _; rfl

theorem sc_next : FnScope ["_law_table_here", "_law_rules_here", "_law_here", "_law_word_here", "_law_other", "_law_bars", "_law_rule"] ["_law_table_here", "_law_rules_here", "_law_here"] (defScope s__law_next) := ⟨rfl, rfl, rfl, by decide +kernel, rfl, by decide +kernel, by decide +kernel⟩
theorem ok_next (T : Tx K mg)  (D : Df K mg "_law_next" s__law_next)  : Cal w K mg base CX0 1 "_law_next" ["_law_table_here", "_law_rules_here", "_law_here"] (sp_next K w) := by
  have nd := sc_next.nd
  refine D.ok (N := ["_law_table_here", "_law_rules_here", "_law_here", "_law_word_here", "_law_other", "_law_bars", "_law_rule"]) sc_next (fun vs H Q E h => ?_) (fun _ _ _ _ _ _ us hl => match us, hl with | [_, _, _], _ => rfl) (fun cdv A outer s H vs Q E hr h => ?_)
  · obtain ⟨t, l, many, sts, R, h, rfl, hT, hlt, q⟩ := h
    rfl
  · have hu := hu_of hr
    obtain ⟨t, l, many, sts, R, h, rfl, hT, hlt, q⟩ := h
    refine ⟨_, PSs.nox (pss_one (ps_ret (pe_lc (own := [("_law_word_here", 3), ("_law_other", 4), ("_law_bars", 5)]) (by rfl) nd (pi_list (pe_ix ix_list (pv 0) (pv 2) (fun _ _ => rfl))) (blkOk_by (own := [("_law_word_here", 3), ("_law_other", 4), ("_law_bars", 5)]) (N := ["_law_table_here", "_law_rules_here", "_law_here", "_law_word_here", "_law_other", "_law_bars", "_law_rule"]) (sc := defScope s__law_next) (by decide +kernel)) (fun _ _ _ _ _ => (show PG _ _ (gTup K 3 _) from pg_tup rfl (pgs_cons (pg_name (i := 3) nd rfl (by first | exact Or.inl rfl | exact Or.inr rfl)) (pgs_cons (pg_name (i := 4) nd rfl (by first | exact Or.inl rfl | exact Or.inr rfl)) (pgs_cons (pg_name (i := 5) nd rfl (by first | exact Or.inl rfl | exact Or.inr rfl)) pgs_nil))))) (fun _ _ _ _ _ => (pts_one (pt_not (pt_val (pe_callB (show CallR _ _ (rAny K) from cr_any rfl) (by rfl) T.n_any (by decide +kernel) (pa_cons (pe_lc (own := [("_law_rule", 6)]) (by rfl) nd (show PI _ _ _ (iList K _) from pi_list (pv 5)) (by refine blkOk_by (own := [("_law_rule", 6)]) (N := ["_law_table_here", "_law_rules_here", "_law_here", "_law_word_here", "_law_other", "_law_bars", "_law_rule"]) ?_; kernel_rfl) (fun _ _ _ _ _ => (pg_name (i := 6) nd rfl (by first | exact Or.inl rfl | exact Or.inr rfl))) (fun _ _ _ _ _ => pts_nil) (fun _ _ _ _ _ => (pe_cmpR (show OpR _ _ (rIn K false) from op_in_seq) (pv 6) (pv 1) (by with_unfolding_all rfl)))) pa_nil)))))) (fun _ _ _ _ _ => (pe_tup (pa_cons (pv 3) (pa_cons (pv 4) pa_nil))))))), ?_⟩
    obtain ⟨rs, hrs, hrl, hrow⟩ := hT.tab
    obtain ⟨r, hr⟩ : ∃ r, rs[h]? = some r := ⟨_, List.getElem?_eq_getElem (by rw [hrl]; exact hlt)⟩
    obtain ⟨xs, hxs, hp⟩ := hrow h r hr
    have lx : xs.length = (rowOf h sts).length := Paired.length hp
    have hf : (rowOf h sts).length ≤ 60 := Nat.le_trans (List.length_filter_le _ _) hT.ok.few
    refine ⟨_, rfl, _, rfl, t, _, iN h, .ref r, rfl, rfl, hrs, atI_nat (j := h) (by rw [List.getElem?_map, hr]; rfl), r, rfl, ⟨_, hxs⟩, fun D hD => ?_⟩
    refine lc_it (walk_list (xs := xs)) (fun j H1 => ∃ ps : List Addr, H1 D = some (.lst (ps.map V.ref)) ∧ ps.length ≤ j ∧ Paired (NEnt K H1) ps ((((rowOf h sts).take j).filter fun st => !barB R st.bars).map fun st => (st.k, st.other)) ∧ Same H H1) ⟨[], upd_same, Nat.le_refl _, .nil, Same.new hD⟩ (fun j H1 _ ⟨_, _, _, _, s1⟩ => SqL.leq (Same.leq s1) hxs) (fun j x H1x H1 hj ⟨ps, z1, z2, z3, s1⟩ ⟨e, hx⟩ => ?_) fun H1 ⟨ps, z1, z2, z3, s1⟩ => ?_
    · subst e
      generalize eσ : wipe _ _ = σ0
      have eσ : σ0 = [some (.ref t), some (.ref l), some (iV h), none, none, none, none] := eσ.symm.trans rfl
      subst eσ
      obtain ⟨st, hst, s0, r0, wv, rfl, g1, g2, g3⟩ := paired_get hp hx
      have hstm : st ∈ sts := (List.mem_filter.mp (List.mem_of_getElem? hst)).1
      refine ⟨s0, _, rfl, SqT.leq (Same.leq s1) g1, rfl, _, _, rfl, _, _, rfl, _, _, rfl, rfl, rfl, ?_⟩
      refine ⟨_, rfl, r0, rfl, ⟨_, SqL.leq (Same.leq s1) g3⟩, fun D2 hD2 => ?_⟩
      have hbf := hT.bars st hstm
      refine lc_fm (walk_list (xs := st.bars.map V.str)) (st.bars.map fun b => some (V.bl (decide (b ∈ R)))) (by simp) (by rw [List.length_map]; exact Nat.le_of_lt (small1000 (by omega))) hD2 (fun H2 s2 => SqL.leq (Same.leq (Same.trans s1 s2)) g3) (fun i o y H2 H3 ho s2 ⟨e, hxi⟩ Rr hR => ?_) fun H2 s2 hD' => ?_
      · subst e
        obtain ⟨b, hb', rfl⟩ := map_get hxi
        rw [List.getElem?_map, hb'] at ho
        cases ho
        refine ⟨rfl, _, rfl, _, rfl, l, R.map V.str, rfl, .inl (SqL.leq (Same.leq (Same.trans s1 s2)) hT.rl), rfl, flat_strs R, ?_⟩
        rw [show (if false = true then !inV (.str b) (R.map V.str) else inV (.str b) (R.map V.str)) = decide (b ∈ R) from inV_str]
        exact hR _ (Same.refl _)
      · rw [fm_some] at hD'
        refine ⟨D2, st.bars.map fun b => decide (b ∈ R), rfl, SqL.of (by rw [hD', List.map_map]; rfl), _, rfl, ?_⟩
        have eb : (st.bars.map fun b => decide (b ∈ R)).any id = barB R st.bars := by rw [List.any_map]; rfl
        rw [eb, take_snoc hst, List.filter_append, List.map_append]
        have z12 := s2 _ _ z1
        have z32 := paired_map z3 fun _ _ q => NEnt.tle (Same.tle s2) q
        cases hbb : barB R st.bars with
        | true =>
          have e5 : ([st].filter fun st => !barB R st.bars) = [] := by simp [hbb]
          rw [e5, List.map_nil, List.append_nil]
          exact ⟨ps, z12, Nat.le_succ_of_le z2, z32, Same.trans s1 s2⟩
        | false =>
          have e5 : ([st].filter fun st => !barB R st.bars) = [st] := by simp [hbb]
          rw [e5]
          refine ⟨_, rfl, _, rfl, (by decide : 2 ≤ sizeLine), fun tp htp => ?_⟩
          have s4 : Same H2 (L2.upd H2 tp (.tup [wv, iV st.other])) := Same.new htp
          have e4 : (L2.upd H2 tp (.tup [wv, iV st.other])) tp = some (.tup [wv, iV st.other]) := upd_same
          generalize L2.upd H2 tp (.tup [wv, iV st.other]) = H4 at s4 e4
          have z14 := s4 _ _ z12
          have s14 := Same.trans s1 (Same.trans s2 s4)
          refine ⟨_, z14, by rw [List.length_map]; exact small1000 (by omega), ps ++ [tp], by rw [upd_same, List.map_append]; rfl, by rw [List.length_append, List.length_singleton]; omega, ?_, Same.over s14 hD⟩
          have te : Tle H4 (L2.upd H4 D (.lst (ps.map V.ref ++ [.ref tp]))) := tle_lst z14
          exact paired_snoc (paired_map z32 fun _ _ q => NEnt.tle (Tle.trans (Same.tle s4) te) q) ⟨wv, SqT.tle te (SqT.of e4), word_tle (Tle.trans (Same.tle s14) te) _ _ g2⟩
    · rw [lx, List.take_length] at z3
      refine q D H1 s1 hD ⟨ps, z1, ?_⟩
      rw [grOf_row hlt]
      exact z3

end
end FF
namespace FF
open PySem PySem.Spec PyProof.Rows L2
section
variable {w : World} {K : PySem.W.Frag} {mg : Str → Option Value} {base : Heap}
/-- the levels that are found -/
def lvK (F : Fnd) : List (Key × V) := F.map fun x => (kN x.1, iV x.2.length)
theorem lv_in {F : Fnd} {n : Nat} : (valV (lvK F) (kN n)).isSome = decide (n ∈ F.map (·.1)) := by
  refine val_kI ?_
  have e : (lvK F).map (·.1) = kI (F.map (·.1)) := by
    show _ = (F.map (·.1)).map kN
    unfold lvK
    rw [List.map_map, List.map_map]
    rfl
  rw [e, kI_mem, decide_eq_true_iff]
theorem lv_snoc {F : Fnd} {n : Nat} {ws : List Wd} (h : n ∉ F.map (·.1)) : putK (lvK F) (kN n) (iV ws.length) = lvK (F ++ [(n, ws)]) := by
  have e : valV (lvK F) (kN n) = none := by
    have := lv_in (F := F) (n := n)
    rw [decide_eq_false h] at this
    cases e : valV (lvK F) (kN n) with
    | none => rfl
    | some v => rw [e] at this; cases this
  rw [putK_new _ e]
  unfold lvK
  rw [List.map_append]
  rfl
theorem procR_ext {run : List Wd} : ∀ (r : Row) (F : Fnd), ∃ E, procR run F r = F ++ E ∧ ∀ x ∈ E, x.2.length = run.length + 1
  | [], F => ⟨[], by simp [procR], fun _ z => nomatch z⟩
  | m :: r, F => by
    obtain ⟨E, e, hE⟩ := procR_ext (run := run) r (addM run F m)
    have e1 : procR run F (m :: r) = procR run (addM run F m) r := rfl
    rw [e1, e]
    unfold addM
    split
    · exact ⟨E, rfl, hE⟩
    · refine ⟨(m.2, run ++ [m.1]) :: E, by rw [List.append_assoc]; rfl, fun x hx => ?_⟩
      rcases List.mem_cons.mp hx with rfl | hx
      · simp
      · exact hE x hx
def sp_levels (K : PySem.W.Frag) (w : World) : Sp := fun vs H Q _ => ∃ (t l : Addr) (many : Nat) (sts : List StepD) (R : List Str), vs = [.ref t, .ref l] ∧ TabIn K H t l many sts R ∧
  ∀ (d : Addr) (H' : Hp), Same H H' → H d = none → H' d = some (.dK (lvK (bfs (grOf many sts R)))) → Q (.ref d) H'

theorem sc_levels : FnScope ["_law_table_here", "_law_rules_here", "_law_found", "_law_now", "_law_many", "_law_later", "_law_here", "_law_word_here", "_law_other"] ["_law_table_here", "_law_rules_here"] (defScope s__law_levels) := ⟨rfl, rfl, rfl, by decide +kernel, rfl, by decide +kernel, by decide +kernel⟩
theorem ok_levels (T : Tx K mg)  (D : Df K mg "_law_levels" s__law_levels) (c__law_next : Cal w K mg base CX0 1 "_law_next" ["_law_table_here", "_law_rules_here", "_law_here"] (sp_next K w)) : Cal w K mg base CX0 2 "_law_levels" ["_law_table_here", "_law_rules_here"] (sp_levels K w) := by
  have nd := sc_levels.nd
  refine D.ok (N := ["_law_table_here", "_law_rules_here", "_law_found", "_law_now", "_law_many", "_law_later", "_law_here", "_law_word_here", "_law_other"]) sc_levels (fun vs H Q E h => ?_) (fun _ _ _ _ _ _ us hl => match us, hl with | [_, _], _ => rfl) (fun cdv A outer s H vs Q E hr h => ?_)
  · obtain ⟨t, l, many, sts, R, rfl, hT, q⟩ := h
    rfl
  · have hu := hu_of hr
    obtain ⟨t, l, many, sts, R, rfl, hT, q⟩ := h
    refine ⟨_, PSs.nox (pss_cons (ps_par3 (i := 2) (j := 3) (l := 4) rfl nd rfl rfl rfl (by decide) (by decide) (by decide) rfl rfl rfl (pa_cons (pe_disp (pps_cons pe_int pe_int pps_nil) (by rfl) (by rfl) (fun z => by cases z) (by decide)) (pa_cons (pe_lst (pa_cons pe_int pa_nil)) (pa_cons pe_int pa_nil))) (by rfl))
      (pss_cons (ps_while PassesOwn.never (pt_cmpR (op_neD hr.units) (pv 3) (pe_lst pa_nil) (nomark _)) (pss_cons (ps_par (i := 4) (j := 5) rfl nd rfl rfl (by decide) rfl rfl (pa_cons (pe_op op_add (pv 4) pe_int) (pa_cons (pe_lst pa_nil) pa_nil)) (by rfl))
      (pss_cons (ps_for PassesOwn.never rfl (pi_list (pv 3)) (pg_name (i := 6) nd rfl (by first | exact Or.inl rfl | exact Or.inr rfl)) (pss_one (ps_for PassesOwn.never rfl (pi_list (pe_cal rfl c__law_next (hr.mono (by first | decide | (simp only [Nat.add_eq]; omega))) pass0 (pa_cons (pv 0) (pa_cons (pv 1) (pa_cons (pv 6) pa_nil))))) (pg_tup rfl (pgs_cons (pg_name (i := 7) nd rfl (by first | exact Or.inl rfl | exact Or.inr rfl)) (pgs_cons (pg_name (i := 8) nd rfl (by first | exact Or.inl rfl | exact Or.inr rfl)) pgs_nil))) (pss_one (ps_if (pt_cmp (pc_dnotin hu (pv 8) (pv 2)) (by with_unfolding_all rfl)) (pss_cons (ps_dput hu (pv 2) (pv 8) (pv 4) rfl)
      (pss_one (ps_expr (pe_bm PySem.F.plainAttrs_list PySem.F.slot_list_append PySem.F.type_list_append mt_append (pv 5) (pa_cons (pv 8) pa_nil))))) pss_nil)))))
      (pss_one (ps_set (i := 3) nd rfl (by first | exact Or.inl rfl | exact Or.inr rfl) (pv 5))))))
      (pss_one (ps_ret (pv 2))))), ?_⟩
    have hG := hT.gr
    have hGl : (grOf many sts R).length = many := grOf_len
    have hm60 := hT.few
    refine fun f hf => ⟨upd_same, [(kN 0, iV 0)], rfl, by decide, (by decide : 1 ≤ sizeLine), fun nw hnw => ⟨_, _, _, rfl, ?_⟩⟩
    have e0 : mergeK [] [(kN 0, iV 0)] = lvK [(0, [])] := rfl
    rw [e0] at hnw ⊢
    have s0 : Same H (L2.upd (L2.upd H f (.dK [])) f (.dK (lvK [(0, [])]))) := Same.over (Same.new hf) hf
    have hf0 : (L2.upd (L2.upd H f (.dK [])) f (.dK (lvK [(0, [])]))) f = some (.dK (lvK [(0, [])])) := upd_same
    generalize L2.upd (L2.upd H f (.dK [])) f (.dK (lvK [(0, [])])) = H0 at hnw s0 hf0 ⊢
    have s1 : Same H (L2.upd H0 nw (.lst [.int 0])) := Same.then s0 hnw
    refine ⟨fun m σ H1 => ∃ (i : Nat) (F : Fnd) (cnt : Nat) (nw : Addr) (x5 x6 x7 x8 : Option V), σ = [some (.ref t), some (.ref l), some (.ref f), some (.ref nw), some (iV cnt), x5, x6, x7, x8] ∧ Same H H1 ∧ H1 f = some (.dK (lvK F)) ∧ H1 nw = some (.lst ((F.drop i).map fun x => iV x.1)) ∧ H nw = none ∧ (∀ x ∈ F.drop i, x.2.length = cnt) ∧ BInv (grOf many sts R) F i ∧ m + i = (grOf many sts R).length + 1 ∧ bfsGo (grOf many sts R) m F i = bfs (grOf many sts R),
      ⟨(grOf many sts R).length + 1, 0, [(0, [])], 0, nw, _, _, _, _, rfl, s1, Same.new hnw _ _ hf0, upd_same, Same.free s0 hnw, fun x hx => by rw [List.mem_singleton.mp hx]; rfl, BInv.start hG, rfl, rfl⟩, ?_⟩
    clear e0 s0 hf0 s1 hnw
    rintro m σ H1 ⟨i, F, cnt, nw, x5, x6, x7, x8, rfl, s1, hf1, hnw1, hnw, hcnt, hB, hm, he⟩
    refine ⟨_, rfl, (by decide : 0 ≤ sizeLine), fun pe hpe => ?_⟩
    have s12 : Same H1 (L2.upd H1 pe (.lst [])) := Same.new hpe
    have hpe2 : (L2.upd H1 pe (.lst [])) pe = some (.lst []) := upd_same
    generalize L2.upd H1 pe (.lst []) = H2 at s12 hpe2
    have s2 := Same.trans s1 s12
    have hf2 := s12 _ _ hf1
    have hnw2 := s12 _ _ hnw1
    have emap : ((F.drop i).map fun x => iV x.1) = ((F.drop i).map (·.1)).map iV := by rw [List.map_map]; rfl
    refine ⟨natD ((F.drop i).map (·.1)), .list [], nat_dp (SqL.of (by rw [hnw2, emap])), .lst (SqL.of hpe2) .nil, nat_shaped _, shaped_nil, _, rfl, ?_⟩
    rw [nat_nil]
    cases hdr : F.drop i with
    | nil =>
      have hnone : F[i]? = none := List.getElem?_eq_none (List.drop_eq_nil_iff.mp hdr)
      rw [bfsGo_end hnone] at he
      subst he
      exact ⟨_, rfl, q f H2 s2 hf hf2⟩
    | cons y0 ys0 =>
      have hle := hB.le
      have hFl := hB.len
      have hkl : (F.drop i).length = F.length - i := List.length_drop ..
      have hk1 : i < F.length := by
        rw [hdr, List.length_cons] at hkl
        omega
      rw [show (y0 :: ys0).map (·.1) = (F.drop i).map (·.1) by rw [hdr]]
      rw [show (!((F.drop i).map (·.1)).isEmpty) = true by rw [hdr]; rfl]
      clear hdr
      refine ⟨_, fun σ' H' h => h, ?_⟩
      refine ⟨_, rfl, _, _, rfl, rfl, (by decide : 0 ≤ sizeLine), fun lt hlt => ⟨_, _, rfl, ?_⟩⟩
      have s23 : Same H2 (L2.upd H2 lt (.lst [])) := Same.new hlt
      have hlt3 : (L2.upd H2 lt (.lst [])) lt = some (.lst []) := upd_same
      have hlt0 : H lt = none := Same.free s2 hlt
      have nln : lt ≠ nw := fun e => by rw [e, hnw2] at hlt; cases hlt
      generalize L2.upd H2 lt (.lst []) = H3 at s23 hlt3
      have s3 := Same.trans s2 s23
      refine ⟨_, rfl, nw, rfl, ⟨_, SqL.of (s23 _ _ hnw2)⟩, ?_⟩
      refine for_list (K := K) (a := nw) (xs := (F.drop i).map fun x => iV x.1) (fun u σ H4 => ∃ (E : Fnd) (x6 x7 x8 : Option V), σ = [some (.ref t), some (.ref l), some (.ref f), some (.ref nw), some (iV (cnt + 1)), some (.ref lt), x6, x7, x8] ∧ Same H H4 ∧ H4 f = some (.dK (lvK (F ++ E))) ∧ H4 nw = some (.lst ((F.drop i).map fun x => iV x.1)) ∧ H4 lt = some (.lst (E.map fun x => iV x.1)) ∧
          (∀ x ∈ E, x.2.length = cnt + 1) ∧ BInv (grOf many sts R) (F ++ E) (i + u) ∧ ∃ m2, m2 + (i + u) = (grOf many sts R).length + 1 ∧ bfsGo (grOf many sts R) m2 (F ++ E) (i + u) = bfs (grOf many sts R))
        ⟨[], _, _, _, rfl, s3, by rw [List.append_nil]; exact s23 _ _ hf2, s23 _ _ hnw2, hlt3, (fun _ z => nomatch z), by rw [List.append_nil]; exact hB, m, hm, by rw [List.append_nil]; exact he⟩ (fun u σ H4 _ ⟨_, _, _, _, _, _, _, z, _⟩ => SqL.of z) ?_ ?_
      · rintro u x σ H4 hu ⟨E, x6, x7, x8, rfl, s4, hf4, hnw4, hlt4, hE, hB4, m2, hm2, he2⟩
        obtain ⟨y, hy, rfl⟩ := map_get hu
        obtain ⟨h, run⟩ := y
        rw [List.getElem?_drop] at hy
        have hiu : i + u < F.length := (List.getElem?_eq_some_iff.mp hy).1
        have hy2 : (F ++ E)[i + u]? = some (h, run) := by rw [List.getElem?_append_left hiu]; exact hy
        have hrun : run.length = cnt := hcnt (h, run) (List.mem_of_getElem? (i := u) (by rw [List.getElem?_drop]; exact hy))
        have hmem := List.mem_of_getElem? hy2
        have hhm : h < many := by rw [← hGl]; exact hB4.lt _ hmem
        refine ⟨_, rfl, _, rfl, _, rfl, t, l, many, sts, R, h, rfl, TabIn.leq (Same.leq s4) hT, hhm, fun p H5 s5 hp0 ⟨ps, hps, hpa⟩ => ?_⟩
        refine ⟨p, rfl, ⟨_, SqL.of hps⟩, ?_⟩
        have npf : p ≠ f := fun e => by rw [e, hf4] at hp0; cases hp0
        have npn : p ≠ nw := fun e => by rw [e, hnw4] at hp0; cases hp0
        have npl : p ≠ lt := fun e => by rw [e, hlt4] at hp0; cases hp0
        have hpH : H p = none := Same.free s4 hp0
        refine for_list (K := K) (a := p) (xs := ps.map V.ref) (fun v σ H6 => ∃ (E2 : Fnd) (x7 x8 : Option V), σ = [some (.ref t), some (.ref l), some (.ref f), some (.ref nw), some (iV (cnt + 1)), some (.ref lt), some (iV h), x7, x8] ∧ Same H H6 ∧ procR run (F ++ E) ((row (grOf many sts R) h).take v) = F ++ E2 ∧ H6 f = some (.dK (lvK (F ++ E2))) ∧ H6 nw = some (.lst ((F.drop i).map fun x => iV x.1)) ∧ H6 lt = some (.lst (E2.map fun x => iV x.1)) ∧ H6 p = some (.lst (ps.map V.ref)) ∧ Paired (NEnt K H6) ps (row (grOf many sts R) h))
          ⟨E, _, _, rfl, Same.trans s4 s5, rfl, s5 _ _ hf4, s5 _ _ hnw4, s5 _ _ hlt4, hps, hpa⟩ (fun v σ H6 _ ⟨_, _, _, _, _, _, _, _, _, z, _⟩ => SqL.of z) ?_ ?_
        · rintro v x σ H6 hv ⟨E2, x7, x8, rfl, s6, hpr, hf6, hnw6, hlt6, hp6, hpa6⟩
          obtain ⟨q0, hq0, rfl⟩ := map_get hv
          obtain ⟨mm, hmm, wv, g1, g2⟩ := paired_get hpa6 hq0
          have hM : MInv (grOf many sts R) (F ++ E) (procR run (F ++ E) ((row (grOf many sts R) h).take v)) (i + u) h run := MInv.row hG (hB4.runs _ hmem) (hB4.rch _ hmem) _ _ (fun x hx => List.mem_of_mem_take hx) (hB4.toM hy2)
          rw [hpr] at hM
          have hlen2 : (F ++ E2).length ≤ (grOf many sts R).length := by
            have := nodup_lt (grOf many sts R).length _ hM.nd fun x hx => by
              obtain ⟨y, hy, e⟩ := List.mem_map.mp hx
              exact e ▸ hM.lt y hy
            simpa using this
          rw [List.length_append, hGl] at hlen2
          have hstep : procR run (F ++ E) ((row (grOf many sts R) h).take (v + 1)) = addM run (F ++ E2) mm := by
            rw [take_snoc hmm, ← hpr]
            exact List.foldl_append ..
          refine ⟨q0, _, rfl, g1, rfl, _, _, rfl, _, _, rfl, rfl, ?_⟩
          refine ⟨_, rfl, _, rfl, f, _, rfl, DGet.k (k := kN mm.2) hf6, _, rfl, ?_⟩
          rw [lv_in]
          unfold addM at hstep
          by_cases hin : mm.2 ∈ (F ++ E2).map (·.1)
          · rw [if_pos hin] at hstep
            rw [decide_eq_true hin]
            exact ⟨E2, _, _, rfl, s6, hstep, hf6, hnw6, hlt6, hp6, hpa6⟩
          · rw [if_neg hin, List.append_assoc] at hstep
            rw [decide_eq_false hin]
            refine ⟨_, rfl, _, rfl, _, rfl, f, _, rfl, DPut.k (k := kN mm.2) hf6 ?_, ?_⟩
            · unfold lvK
              rw [List.length_map, List.length_append]
              exact small1000 (by omega)
            rw [show iV (cnt + 1) = iV (run ++ [mm.1]).length by rw [List.length_append, List.length_singleton, hrun]]
            rw [lv_snoc hin, List.append_assoc]
            have s7 : Same H (L2.upd H6 f (.dK (lvK (F ++ (E2 ++ [(mm.2, run ++ [mm.1])]))))) := Same.over s6 hf
            have keep : ∀ b o, b ≠ f → H6 b = some o → (L2.upd H6 f (.dK (lvK (F ++ (E2 ++ [(mm.2, run ++ [mm.1])]))))) b = some o := fun b o hb e => by rw [upd_ne hb]; exact e
            have t7 : Tle H6 (L2.upd H6 f (.dK (lvK (F ++ (E2 ++ [(mm.2, run ++ [mm.1])]))))) := Tle.but hf6 (fun _ z => nomatch z) (fun _ _ z => nomatch z) keep
            have hf7 : (L2.upd H6 f (.dK (lvK (F ++ (E2 ++ [(mm.2, run ++ [mm.1])]))))) f = some (.dK (lvK (F ++ (E2 ++ [(mm.2, run ++ [mm.1])])))) := upd_same
            generalize L2.upd H6 f (.dK (lvK (F ++ (E2 ++ [(mm.2, run ++ [mm.1])])))) = H7 at s7 keep t7 hf7
            have nlf : lt ≠ f := ne_of hlt6 hf6 (fun z => nomatch z)
            have nnf : nw ≠ f := ne_of hnw6 hf6 (fun z => nomatch z)
            have hlt7 := keep _ _ nlf hlt6
            have hp7 := keep _ _ npf hp6
            have hnw7 := keep _ _ nnf hnw6
            refine ⟨_, rfl, .inl ⟨rfl, _, SqL.of hlt7⟩, _, rfl, lt, _, iV mm.2, rfl, rfl, hlt7, ?_, E2 ++ [(mm.2, run ++ [mm.1])], _, _, rfl, Same.over s7 hlt0, hstep, ?_, ?_, ?_, ?_, paired_map hpa6 fun _ _ q => NEnt.tle (Tle.trans t7 (tle_lst hlt7)) q⟩
            · rw [List.length_map]
              exact small1000 (by omega)
            · rw [upd_ne (Ne.symm nlf)]
              exact hf7
            · rw [upd_ne (Ne.symm nln)]
              exact hnw7
            · rw [upd_same, List.map_append]
              rfl
            · rw [upd_ne npl]
              exact hp7
        · rintro σ H6 ⟨E2, x7, x8, rfl, s6, hpr, hf6, hnw6, hlt6, hp6, hpa6⟩
          rw [List.length_map, Paired.length hpa, List.take_length] at hpr
          obtain ⟨m3, rfl⟩ : ∃ m3, m2 = m3 + 1 := ⟨m2 - 1, by have := hB4.len; rw [List.length_append] at this; omega⟩
          rw [bfsGo_step hy2, hpr] at he2
          have hB6 := hB4.step hG hy2
          rw [hpr] at hB6
          refine ⟨E2, _, _, _, rfl, s6, hf6, hnw6, hlt6, fun x hx => ?_, hB6, m3, by omega, he2⟩
          obtain ⟨E3, e3, hE3⟩ := procR_ext (run := run) (row (grOf many sts R) h) (F ++ E)
          rw [hpr, List.append_assoc] at e3
          have e4 := List.append_cancel_left e3
          rw [e4] at hx
          rcases List.mem_append.mp hx with hx | hx
          · exact hE x hx
          · rw [hE3 x hx, hrun]
      · rintro σ H4 ⟨E, x6, x7, x8, rfl, s4, hf4, hnw4, hlt4, hE, hB4, m2, hm2, he2⟩
        have hk : i + ((F.drop i).map fun x => iV x.1).length = F.length := by rw [List.length_map, hkl]; omega
        rw [hk] at hB4 hm2 he2
        have ed : (F ++ E).drop F.length = E := List.drop_left
        exact ⟨_, rfl, m2, by omega, F.length, F ++ E, cnt + 1, lt, _, _, _, _, rfl, s4, hf4, by rw [ed]; exact hlt4, hlt0, by rw [ed]; exact hE, hB4, hm2, he2⟩

end
end FF
namespace FF
open PySem PySem.Spec PyProof.Rows L2
mutual
theorem eqv_iff : ∀ a b : NestedKey, PyData.eqv a.data b.data = true ↔ a = b
  | .none, .none => by simp [NestedKey.data, PyData.eqv]
  | .none, .num _ => by simp [NestedKey.data, PyData.eqv]
  | .none, .text _ => by simp [NestedKey.data, PyData.eqv]
  | .none, .tup _ => by simp [NestedKey.data, PyData.eqv]
  | .num _, .none => by simp [NestedKey.data, PyData.eqv]
  | .num _, .num _ => by simp [NestedKey.data, PyData.eqv]
  | .num _, .text _ => by simp [NestedKey.data, PyData.eqv]
  | .num _, .tup _ => by simp [NestedKey.data, PyData.eqv]
  | .text _, .none => by simp [NestedKey.data, PyData.eqv]
  | .text _, .num _ => by simp [NestedKey.data, PyData.eqv]
  | .text _, .text _ => by simp [NestedKey.data, PyData.eqv]
  | .text _, .tup _ => by simp [NestedKey.data, PyData.eqv]
  | .tup _, .none => by simp [NestedKey.data, PyData.eqv]
  | .tup _, .num _ => by simp [NestedKey.data, PyData.eqv]
  | .tup _, .text _ => by simp [NestedKey.data, PyData.eqv]
  | .tup as, .tup bs => by
    simp only [NestedKey.data, PyData.eqv, NestedKey.tup.injEq]
    exact eqvAll_iff as bs
theorem eqvAll_iff : ∀ as bs : List NestedKey, PyData.eqvAll (NestedKey.datas as) (NestedKey.datas bs) = true ↔ as = bs
  | [], [] => by simp [NestedKey.datas, PyData.eqvAll]
  | [], _ :: _ => by simp [NestedKey.datas, PyData.eqvAll]
  | _ :: _, [] => by simp [NestedKey.datas, PyData.eqvAll]
  | a :: as, b :: bs => by
    simp only [NestedKey.datas, PyData.eqvAll, Bool.and_eq_true, List.cons.injEq]
    rw [eqv_iff a b, eqvAll_iff as bs]
end
theorem eqv_dec (a b : NestedKey) : PyData.eqv a.data b.data = decide (a = b) := by
  by_cases h : a = b
  · rw [decide_eq_true h, (eqv_iff a b).mpr h]
  · rw [decide_eq_false h]
    cases e : PyData.eqv a.data b.data with
    | false => rfl
    | true => exact absurd ((eqv_iff a b).mp e) h
section
variable {w : World} {K : PySem.W.Frag} {mg : Str → Option Value} {base : Heap}
def toldO (r : Row) (wd : Wd) : List (Option V) := r.map fun m => if m.1 = wd then some (iV m.2) else none
theorem told_find {r : Row} {wd : Wd} {m : Wd × Nat} (h : (r.find? fun m => decide (m.1 = wd)) = some m) : ∃ rest : List Nat, (toldO r wd).filterMap id = (m.2 :: rest).map iV := by
  induction r with
  | nil => cases h
  | cons x r ih =>
    rw [List.find?_cons] at h
    have e : toldO (x :: r) wd = (if x.1 = wd then some (iV x.2) else none) :: toldO r wd := rfl
    rw [e]
    by_cases hx : x.1 = wd
    · rw [decide_eq_true hx] at h
      cases h
      rw [if_pos hx]
      refine ⟨((r.filter fun m => decide (m.1 = wd)).map (·.2)), ?_⟩
      show iV m.2 :: (toldO r wd).filterMap id = _
      rw [List.map_cons]
      congr 1
      clear ih e
      induction r with
      | nil => rfl
      | cons y r ih =>
        have e : toldO (y :: r) wd = (if y.1 = wd then some (iV y.2) else none) :: toldO r wd := rfl
        rw [e]
        by_cases hy : y.1 = wd
        · rw [if_pos hy, List.filter_cons, if_pos (decide_eq_true hy)]
          show iV y.2 :: (toldO r wd).filterMap id = _
          rw [ih]
          rfl
        · rw [if_neg hy, List.filter_cons, if_neg (by simpa using hy)]
          exact ih
    · rw [decide_eq_false hx] at h
      rw [if_neg hx]
      exact ih h
def sp_walk (K : PySem.W.Frag) (w : World) : Sp := fun vs H Q _ => ∃ (t l : Addr) (v : V) (many : Nat) (sts : List StepD) (R : List Str) (run : List Wd) (h : Nat), vs = [.ref t, .ref l, v] ∧ TabIn K H t l many sts R ∧ RunAt K H v run ∧ (∀ k ∈ run, wordOk k = true) ∧ walkG (grOf many sts R) 0 run = some h ∧ ∀ H', Same H H' → Q (iV h) H'

theorem sc_walk : FnScope ["_law_table_here", "_law_rules_here", "_law_run", "_law_here", "_law_word_here", "_law_told", "_law_one", "_law_other"] ["_law_table_here", "_law_rules_here", "_law_run"] (defScope s__law_walk) := ⟨rfl, rfl, rfl, by decide +kernel, rfl, by decide +kernel, by decide +kernel⟩
theorem ok_walk (T : Tx K mg)  (D : Df K mg "_law_walk" s__law_walk) (c__law_next : Cal w K mg base CX0 1 "_law_next" ["_law_table_here", "_law_rules_here", "_law_here"] (sp_next K w)) : Cal w K mg base CX0 2 "_law_walk" ["_law_table_here", "_law_rules_here", "_law_run"] (sp_walk K w) := by
  have nd := sc_walk.nd
  refine D.ok (N := ["_law_table_here", "_law_rules_here", "_law_run", "_law_here", "_law_word_here", "_law_told", "_law_one", "_law_other"]) sc_walk (fun vs H Q E h => ?_) (fun _ _ _ _ _ _ us hl => match us, hl with | [_, _, _], _ => rfl) (fun cdv A outer s H vs Q E hr h => ?_)
  · obtain ⟨t, l, v, many, sts, R, run, hend, rfl, hT, ⟨a, xs, rfl, ha, hp⟩, hok, hw, q⟩ := h
    rfl
  · have hu := hu_of hr
    obtain ⟨t, l, v, many, sts, R, run, hend, rfl, hT, ⟨a, xs, rfl, ha, hp⟩, hok, hw, q⟩ := h
    refine ⟨_, PSs.nox (pss_cons (ps_set (i := 3) nd rfl (by first | exact Or.inl rfl | exact Or.inr rfl) pe_int)
      (pss_cons (ps_for PassesOwn.never rfl (pi_list (pv 2)) (pg_name (i := 4) nd rfl (by first | exact Or.inl rfl | exact Or.inr rfl)) (pss_cons (ps_setLc (i := 5) (own := [("_law_one", 6), ("_law_other", 7)]) (by rfl) nd rfl rfl (sw_true rfl rfl rfl (by decide +kernel)) (pi_list (pe_cal rfl c__law_next (hr.mono (by first | decide | (simp only [Nat.add_eq]; omega))) pass0 (pa_cons (pv 0) (pa_cons (pv 1) (pa_cons (pv 3) pa_nil))))) (blkOk_by (own := [("_law_one", 6), ("_law_other", 7)]) (N := ["_law_table_here", "_law_rules_here", "_law_run", "_law_here", "_law_word_here", "_law_told", "_law_one", "_law_other"]) (sc := defScope s__law_walk) (by decide +kernel)) (fun _ _ _ _ _ => (show PG _ _ (gTup K 2 _) from pg_tup rfl (pgs_cons (pg_name (i := 6) nd rfl (by first | exact Or.inl rfl | exact Or.inr rfl)) (pgs_cons (pg_name (i := 7) nd rfl (by first | exact Or.inl rfl | exact Or.inr rfl)) pgs_nil)))) (fun _ _ _ _ _ => (pts_one (pt_cmpR (show OpR _ _ (rEqD K) from op_eqD hr.units) (pv 6) (pv 4) (nomark _)))) (fun _ _ _ _ _ => (pv 7)))
      (pss_cons (ps_if (pt_cmpR (op_eqD hr.units) (pv 5) (pe_lst pa_nil) (nomark _)) (pss_one (ps_ret pe_non)) pss_nil)
      (pss_one (ps_set (i := 3) nd rfl (by first | exact Or.inl rfl | exact Or.inr rfl) (pe_ix ix_list (pv 5) pe_int (fun _ _ => rfl)))))))
      (pss_one (ps_ret (pv 3))))), ?_⟩
    have hG := hT.gr
    have hGl : (grOf many sts R).length = many := grOf_len
    have lx : xs.length = run.length := Paired.length hp
    have h60 := hT.few
    refine ⟨_, rfl, a, rfl, ⟨_, SqL.of ha⟩, ?_⟩
    refine for_list (K := K) (a := a) (xs := xs) (fun i σ H1 => ∃ (h : Nat) (x4 x5 x6 x7 : Option V), σ = [some (.ref t), some (.ref l), some (.ref a), some (iV h), x4, x5, x6, x7] ∧ Same H H1 ∧ h < many ∧ walkG (grOf many sts R) h (run.drop i) = some hend) ⟨0, _, _, _, _, rfl, Same.refl _, hT.pos, hw⟩ (fun i σ H1 _ ⟨_, _, _, _, _, _, s1, _⟩ => SqL.of (s1 _ _ ha)) ?_ ?_
    · rintro i x σ H1 hi ⟨h, x4, x5, x6, x7, rfl, s1, hh, hwk⟩
      obtain ⟨wd, hwd, hx1, _⟩ := paired_get hp hi
      have hdr : run.drop i = wd :: run.drop (i + 1) := by
        obtain ⟨hlt, e⟩ := List.getElem?_eq_some_iff.mp hwd
        rw [← e]
        exact List.drop_eq_getElem_cons hlt
      rw [hdr] at hwk
      have hwk : (match (row (grOf many sts R) h).find? fun m => decide (m.1 = wd) with | some m => walkG (grOf many sts R) m.2 (run.drop (i + 1)) | none => none) = some hend := hwk
      cases hfd : (row (grOf many sts R) h).find? fun m => decide (m.1 = wd) with
      | none => rw [hfd] at hwk; cases hwk
      | some m =>
        rw [hfd] at hwk
        have hwk : walkG (grOf many sts R) m.2 (run.drop (i + 1)) = some hend := hwk
        have hmr := List.mem_of_find?_eq_some hfd
        obtain ⟨rest, hrest⟩ := told_find hfd
        refine ⟨_, rfl, _, rfl, _, rfl, t, l, many, sts, R, h, rfl, TabIn.leq (Same.leq s1) hT, hh, fun p H2 s2 hp0 ⟨ps, hps, hpa⟩ => ?_⟩
        have lps : ps.length = (row (grOf many sts R) h).length := Paired.length hpa
        have hr60 := grOf_few (R := R) hT.ok h
        refine ⟨p, rfl, ⟨_, SqL.of hps⟩, fun D hD => ?_⟩
        have s12 := Same.trans s1 s2
        refine lc_fm (walk_list (xs := ps.map V.ref)) (toldO (row (grOf many sts R) h) wd) (by unfold toldO; rw [List.length_map, List.length_map, lps]) (by rw [List.length_map]; exact Nat.le_of_lt (small1000 (by omega))) hD (fun H3 s3 => SqL.of (s3 _ _ hps)) (fun j o y H3 H4 ho s3 ⟨e, hy⟩ R' hR => ?_) fun H3 s3 hD3 => ?_
        · subst e
          generalize eσ : wipe _ _ = σ0
          have eσ : σ0 = [some (.ref t), some (.ref l), some (.ref a), some (iV h), some x, x5, none, none] := eσ.symm.trans rfl
          subst eσ
          obtain ⟨q0, hq0, rfl⟩ := map_get hy
          obtain ⟨mm, hmm, wv, g1, g2⟩ := paired_get hpa hq0
          have ho : o = if mm.1 = wd then some (iV mm.2) else none := by
            unfold toldO at ho
            rw [List.getElem?_map, hmm] at ho
            exact (Option.some.inj ho).symm
          refine ⟨q0, _, rfl, SqT.leq (Same.leq s3) g1, rfl, _, _, rfl, _, _, rfl, rfl, rfl, ?_⟩
          have hmo : wordOk mm.1 = true := hT.lay h mm.1 mm.2 (List.mem_of_getElem? hmm)
          refine ⟨_, rfl, _, rfl, mm.1.data, wd.data, Dp.leq (Same.leq s3) _ _ g2, Dp.leq (Same.leq (Same.trans s12 s3)) _ _ hx1, shaped_word hmo, shaped_word (hok wd (List.mem_of_getElem? hwd)), _, rfl, ?_⟩
          rw [eqv_dec]
          subst ho
          by_cases hm : mm.1 = wd
          · rw [decide_eq_true hm]
            rw [if_pos hm] at hR
            exact ⟨_, rfl, hR _ (Same.refl _)⟩
          · rw [decide_eq_false hm]
            rw [if_neg hm] at hR
            exact hR _ (Same.refl _)
        · rw [hrest] at hD3
          refine ⟨_, rfl, (by decide : 0 ≤ sizeLine), fun pe hpe => ?_⟩
          have s34 : Same H3 (L2.upd H3 pe (.lst [])) := Same.new hpe
          have hpe4 : (L2.upd H3 pe (.lst [])) pe = some (.lst []) := upd_same
          generalize L2.upd H3 pe (.lst []) = H4 at s34 hpe4
          have hD4 := s34 _ _ hD3
          refine ⟨natD (m.2 :: rest), .list [], nat_dp (SqL.of hD4), .lst (SqL.of hpe4) .nil, nat_shaped _, shaped_nil, _, rfl, ?_⟩
          rw [nat_nil]
          refine ⟨_, rfl, D, _, 0, iV m.2, rfl, rfl, SqL.of hD4, atI_nat (j := 0) rfl, m.2, _, _, _, _, rfl, Same.trans s12 (Same.trans s3 s34), ?_, hwk⟩
          rw [← hGl]
          exact hG.to h m.1 m.2 hmr
    · rintro σ H1 ⟨h, x4, x5, x6, x7, rfl, s1, hh, hwk⟩
      rw [lx, List.drop_length] at hwk
      cases hwk
      exact ⟨_, rfl, q H1 s1⟩

end
end FF
namespace FF
open PySem PySem.Spec PyProof.Rows L2
/-! ### going on from a stand -/
structure FInv (G : Gr) (st : Nat) (L W : List Nat) (x : Nat) (rest : Row) : Prop where
  nd : L.Nodup
  lt : ∀ s ∈ L, s < G.length
  wnd : W.Nodup
  sub : ∀ s ∈ W, s ∈ L
  here : st ∈ L
  rch : ∀ s ∈ L, Rch G st s
  done : ∀ s ∈ L, s ∉ W → ∀ m ∈ row G s, m.2 ∈ L ∨ (s = x ∧ m ∈ rest)
section
variable {G : Gr} {st : Nat} {L W : List Nat} {x : Nat} {m : Wd × Nat} {rest : Row}
theorem FInv.start (h : st < G.length) : FInv G st [st] [st] 0 [] where
  nd := by simp
  lt := fun s hs => by rw [List.mem_singleton.mp hs]; exact h
  wnd := by simp
  sub := fun _ h => h
  here := List.mem_singleton.mpr rfl
  rch := fun s hs => by rw [List.mem_singleton.mp hs]; exact .refl st
  done := fun s hs hn => absurd hs hn
theorem FInv.pop {h : Nat} (i : FInv G st L (W ++ [x]) h []) : FInv G st L W x (row G x) where
  nd := i.nd
  lt := i.lt
  wnd := (List.nodup_append.mp i.wnd).1
  sub := fun s hs => i.sub s (List.mem_append_left _ hs)
  here := i.here
  rch := i.rch
  done := fun s hs hn y hy => by
    by_cases e : s = x
    · exact .inr ⟨e, e ▸ hy⟩
    · rcases i.done s hs (fun hm => (List.mem_append.mp hm).elim hn fun q => e (List.mem_singleton.mp q)) y hy with q | ⟨_, q⟩
      · exact .inl q
      · cases q
theorem FInv.old (i : FInv G st L W x (m :: rest)) (hh : m.2 ∈ L) : FInv G st L W x rest :=
  ⟨i.nd, i.lt, i.wnd, i.sub, i.here, i.rch, fun s hs hn y hy => by
    rcases i.done s hs hn y hy with q | ⟨e, q⟩
    · exact .inl q
    · rcases List.mem_cons.mp q with rfl | q
      · exact .inl hh
      · exact .inr ⟨e, q⟩⟩
theorem FInv.new (i : FInv G st L W x (m :: rest)) (hh : m.2 ∉ L) (hx : x ∈ L) (hlt : m.2 < G.length) (hr : m ∈ row G x) : FInv G st (L ++ [m.2]) (W ++ [m.2]) x rest where
  nd := by
    rw [List.nodup_append]
    refine ⟨i.nd, by simp, fun a ha b hb e => ?_⟩
    rw [List.mem_singleton.mp hb] at e
    exact hh (e ▸ ha)
  lt := fun s hs => (List.mem_append.mp hs).elim (i.lt s) fun q => by rw [List.mem_singleton.mp q]; exact hlt
  wnd := by
    rw [List.nodup_append]
    refine ⟨i.wnd, by simp, fun a ha b hb e => ?_⟩
    rw [List.mem_singleton.mp hb] at e
    exact hh (e ▸ i.sub a ha)
  sub := fun s hs => (List.mem_append.mp hs).elim (fun q => List.mem_append_left _ (i.sub s q)) fun q => List.mem_append_right _ q
  here := List.mem_append_left _ i.here
  rch := fun s hs => (List.mem_append.mp hs).elim (i.rch s) fun q => by
    rw [List.mem_singleton.mp q]
    exact .step (w := m.1) (i.rch x hx) hr
  done := fun s hs hn y hy => by
    rcases List.mem_append.mp hs with hs | hs
    · rcases i.done s hs (fun q => hn (List.mem_append_left _ q)) y hy with q | ⟨e, q⟩
      · exact .inl (List.mem_append_left _ q)
      · rcases List.mem_cons.mp q with rfl | q
        · exact .inl (List.mem_append_right _ List.mem_cons_self)
        · exact .inr ⟨e, q⟩
    · exact absurd (List.mem_append_right _ hs) hn
theorem FInv.end (i : FInv G st L [] x []) {s : Nat} : s ∈ L ↔ Rch G st s := by
  constructor
  · exact i.rch s
  · intro r
    refine r.stays (C := fun s => s ∈ L) (fun s wd u hs hm => ?_) i.here
    rcases i.done s hs (fun q => nomatch q) (wd, u) hm with q | ⟨_, q⟩
    · exact q
    · cases q
theorem FInv.len (i : FInv G st L W x rest) : L.length ≤ G.length ∧ W.length ≤ G.length :=
  ⟨nodup_lt _ _ i.nd i.lt, nodup_lt _ _ i.wnd fun s hs => i.lt s (i.sub s hs)⟩
end
section
variable {w : World} {K : PySem.W.Frag} {mg : Str → Option Value} {base : Heap}
def sp_from (K : PySem.W.Frag) (w : World) : Sp := fun vs H Q _ => ∃ (t l : Addr) (many : Nat) (sts : List StepD) (R : List Str) (st : Nat), vs = [.ref t, .ref l, iV st] ∧ TabIn K H t l many sts R ∧ st < many ∧
  ∀ (p : Addr) (H' : Hp) (L : List Nat), Same H H' → H p = none → H' p = some (.lst (L.map iV)) → (∀ s, s ∈ L ↔ Rch (grOf many sts R) st s) → L.length ≤ 60 → Q (.ref p) H'

theorem sc_from : FnScope ["_law_table_here", "_law_rules_here", "_law_start_here", "_law_found", "_law_waiting", "_law_here", "_law_word_here", "_law_other"] ["_law_table_here", "_law_rules_here", "_law_start_here"] (defScope s__law_from) := ⟨rfl, rfl, rfl, by decide +kernel, rfl, by decide +kernel, by decide +kernel⟩
theorem ok_from (T : Tx K mg)  (D : Df K mg "_law_from" s__law_from) (c__law_next : Cal w K mg base CX0 1 "_law_next" ["_law_table_here", "_law_rules_here", "_law_here"] (sp_next K w)) : Cal w K mg base CX0 2 "_law_from" ["_law_table_here", "_law_rules_here", "_law_start_here"] (sp_from K w) := by
  have nd := sc_from.nd
  refine D.ok (N := ["_law_table_here", "_law_rules_here", "_law_start_here", "_law_found", "_law_waiting", "_law_here", "_law_word_here", "_law_other"]) sc_from (fun vs H Q E h => ?_) (fun _ _ _ _ _ _ us hl => match us, hl with | [_, _, _], _ => rfl) (fun cdv A outer s H vs Q E hr h => ?_)
  · obtain ⟨t, l, many, sts, R, st, rfl, hT, hst, q⟩ := h
    rfl
  · have hu := hu_of hr
    obtain ⟨t, l, many, sts, R, st, rfl, hT, hst, q⟩ := h
    refine ⟨_, PSs.nox (pss_cons (ps_par (i := 3) (j := 4) rfl nd rfl rfl (by decide) rfl rfl (pa_cons (pe_lst (pa_cons (pv 2) pa_nil)) (pa_cons (pe_lst (pa_cons (pv 2) pa_nil)) pa_nil)) (by rfl))
      (pss_cons (ps_while PassesOwn.never (pt_cmpR (op_neD hr.units) (pv 4) (pe_lst pa_nil) (nomark _)) (pss_cons (ps_set (i := 5) nd rfl (by first | exact Or.inl rfl | exact Or.inr rfl) (pe_bm0 PySem.F.plainAttrs_list PySem.F.slot_list_pop PySem.F.type_list_pop mt_pop (pv 4)))
      (pss_one (ps_for PassesOwn.never rfl (pi_list (pe_cal rfl c__law_next (hr.mono (by first | decide | (simp only [Nat.add_eq]; omega))) pass0 (pa_cons (pv 0) (pa_cons (pv 1) (pa_cons (pv 5) pa_nil))))) (pg_tup rfl (pgs_cons (pg_name (i := 6) nd rfl (by first | exact Or.inl rfl | exact Or.inr rfl)) (pgs_cons (pg_name (i := 7) nd rfl (by first | exact Or.inl rfl | exact Or.inr rfl)) pgs_nil))) (pss_one (ps_if (pt_cmpR op_notIn_seq (pv 7) (pv 3) (by with_unfolding_all rfl)) (pss_cons (ps_expr (pe_bm PySem.F.plainAttrs_list PySem.F.slot_list_append PySem.F.type_list_append mt_append (pv 3) (pa_cons (pv 7) pa_nil)))
      (pss_one (ps_expr (pe_bm PySem.F.plainAttrs_list PySem.F.slot_list_append PySem.F.type_list_append mt_append (pv 4) (pa_cons (pv 7) pa_nil))))) pss_nil))))))
      (pss_one (ps_ret (pv 3))))), ?_⟩
    have hG := hT.gr
    have hGl : (grOf many sts R).length = many := grOf_len
    have h60 := hT.few
    refine ⟨_, rfl, (by decide : 1 ≤ sizeLine), fun fo hfo => ?_⟩
    refine ⟨_, rfl, (by decide : 1 ≤ sizeLine), fun wa hwa => ⟨_, _, rfl, ?_⟩⟩
    have nfw : fo ≠ wa := fun e => by
      rw [← e, upd_same] at hwa
      cases hwa
    have s1 : Same H (L2.upd (L2.upd H fo (.lst [iV st])) wa (.lst [iV st])) := Same.then (Same.new hfo) hwa
    have hwa0 : H wa = none := Same.free (Same.new hfo) hwa
    have hfo1 : (L2.upd (L2.upd H fo (.lst [iV st])) wa (.lst [iV st])) fo = some (.lst [iV st]) := by rw [upd_ne nfw, upd_same]
    have hwa1 : (L2.upd (L2.upd H fo (.lst [iV st])) wa (.lst [iV st])) wa = some (.lst [iV st]) := upd_same
    generalize L2.upd (L2.upd H fo (.lst [iV st])) wa (.lst [iV st]) = H1 at s1 hfo1 hwa1
    refine ⟨fun m σ H2 => ∃ (x5 x6 x7 : Option V) (L W : List Nat) (h : Nat), σ = [some (.ref t), some (.ref l), some (iV st), some (.ref fo), some (.ref wa), x5, x6, x7] ∧ Same H H2 ∧ H2 fo = some (.lst (L.map iV)) ∧ H2 wa = some (.lst (W.map iV)) ∧ FInv (grOf many sts R) st L W h [] ∧ 2 * (many - L.length) + W.length ≤ m,
      ⟨_, _, _, _, [st], [st], 0, rfl, s1, hfo1, hwa1, FInv.start (by rw [hGl]; exact hst), Nat.le_refl _⟩, ?_⟩
    clear s1 hfo1 hwa1 hwa
    rintro m σ H2 ⟨x5, x6, x7, L, W, h, rfl, s2, hfo2, hwa2, hI, hm⟩
    refine ⟨_, rfl, (by decide : 0 ≤ sizeLine), fun pe hpe => ?_⟩
    have s23 : Same H2 (L2.upd H2 pe (.lst [])) := Same.new hpe
    have hpe3 : (L2.upd H2 pe (.lst [])) pe = some (.lst []) := upd_same
    generalize L2.upd H2 pe (.lst []) = H3 at s23 hpe3
    have s3 := Same.trans s2 s23
    have hfo3 := s23 _ _ hfo2
    have hwa3 := s23 _ _ hwa2
    refine ⟨natD W, .list [], nat_dp (SqL.of hwa3), .lst (SqL.of hpe3) .nil, nat_shaped W, shaped_nil, _, rfl, ?_⟩
    rw [nat_nil]
    have hW : W = [] ∨ ∃ (W' : List Nat) (x : Nat), W = W' ++ [x] := (List.eq_nil_or_concat W).imp id fun ⟨W', x, e⟩ => ⟨W', x, e.trans (List.concat_eq_append ..)⟩
    rcases hW with rfl | ⟨W', x, rfl⟩
    · exact ⟨_, rfl, q fo H3 L s3 hfo hfo3 (fun s => FInv.end hI) (by have := hI.len.1; omega)⟩
    · have hmem : x ∈ L := hI.sub x (List.mem_append_right _ List.mem_cons_self)
      have hxm : x < many := by rw [← hGl]; exact hI.lt x hmem
      have hdrop : ((W' ++ [x]).map iV).dropLast = W'.map iV := by rw [List.map_append]; exact List.dropLast_concat
      have hlast : ((W' ++ [x]).map iV)[((W' ++ [x]).map iV).length - 1]? = some (iV x) := by
        rw [List.length_map, List.length_append, List.length_singleton, Nat.add_sub_cancel, List.getElem?_map, List.getElem?_concat_length]
        rfl
      have hne : (W' ++ [x]).isEmpty = false := by cases W' <;> rfl
      rw [hne]
      refine ⟨_, fun σ' H' h => h, ?_⟩
      refine ⟨_, rfl, .inl ⟨rfl, _, SqL.of hwa3⟩, wa, _, iV x, rfl, rfl, hwa3, hlast, ?_⟩
      rw [hdrop]
      have s4 : Same H (L2.upd H3 wa (.lst (W'.map iV))) := Same.over s3 hwa0
      have hfo4 : (L2.upd H3 wa (.lst (W'.map iV))) fo = some (.lst (L.map iV)) := by rw [upd_ne nfw]; exact hfo3
      have hwa4 : (L2.upd H3 wa (.lst (W'.map iV))) wa = some (.lst (W'.map iV)) := upd_same
      generalize L2.upd H3 wa (.lst (W'.map iV)) = H4 at s4 hfo4 hwa4
      refine ⟨_, rfl, _, rfl, _, rfl, t, l, many, sts, R, x, rfl, TabIn.leq (Same.leq s4) hT, hxm, fun p H5 s5 hp0 ⟨ps, hps, hpa⟩ => ?_⟩
      have npf : p ≠ fo := fun e => by rw [e, hfo4] at hp0; cases hp0
      have npw : p ≠ wa := fun e => by rw [e, hwa4] at hp0; cases hp0
      have lps : ps.length = (row (grOf many sts R) x).length := Paired.length hpa
      refine ⟨p, rfl, ⟨_, SqL.of hps⟩, ?_⟩
      refine for_list (K := K) (a := p) (xs := ps.map V.ref) (fun v σ H6 => ∃ (x6 x7 : Option V) (L W : List Nat), σ = [some (.ref t), some (.ref l), some (iV st), some (.ref fo), some (.ref wa), some (iV x), x6, x7] ∧ Same H H6 ∧ H6 fo = some (.lst (L.map iV)) ∧ H6 wa = some (.lst (W.map iV)) ∧ H6 p = some (.lst (ps.map V.ref)) ∧ Paired (NEnt K H6) ps (row (grOf many sts R) x) ∧
          FInv (grOf many sts R) st L W x ((row (grOf many sts R) x).drop v) ∧ x ∈ L ∧ 2 * (many - L.length) + W.length < m)
        ⟨_, _, L, W', rfl, Same.trans s4 s5, s5 _ _ hfo4, s5 _ _ hwa4, hps, hpa, hI.pop, hmem, by rw [List.length_append, List.length_singleton] at hm; omega⟩ (fun v σ H6 _ ⟨_, _, _, _, _, _, _, _, z, _⟩ => SqL.of z) ?_ ?_
      · rintro v y σ H6 hv ⟨x6, x7, Lb, Wb, rfl, s6, hfo6, hwa6, hp6, hpa6, hI6, hx6, hm6⟩
        obtain ⟨q0, hq0, rfl⟩ := map_get hv
        obtain ⟨mm, hmm, wv, g1, g2⟩ := paired_get hpa6 hq0
        have hdr : (row (grOf many sts R) x).drop v = mm :: (row (grOf many sts R) x).drop (v + 1) := by
          obtain ⟨hlt, e⟩ := List.getElem?_eq_some_iff.mp hmm
          rw [← e]
          exact List.drop_eq_getElem_cons hlt
        rw [hdr] at hI6
        have hmr := List.mem_of_getElem? hmm
        refine ⟨q0, _, rfl, g1, rfl, _, _, rfl, _, _, rfl, rfl, ?_⟩
        refine ⟨_, rfl, _, rfl, fo, _, rfl, .inl (SqL.of hfo6), rfl, flat_nats Lb, _, rfl, ?_⟩
        rw [show (if true = true then !inV (iV mm.2) (Lb.map iV) else inV (iV mm.2) (Lb.map iV)) = !decide (mm.2 ∈ Lb) by rw [inV_nat]; rfl]
        have hll := hI6.len
        by_cases hin : mm.2 ∈ Lb
        · rw [decide_eq_true hin]
          exact ⟨_, _, Lb, Wb, rfl, s6, hfo6, hwa6, hp6, hpa6, hI6.old hin, hx6, hm6⟩
        · rw [decide_eq_false hin]
          have hI7 := hI6.new hin hx6 (hG.to x mm.1 mm.2 hmr) hmr
          have hll7 := hI7.len.1
          rw [List.length_append, List.length_singleton] at hll7
          refine ⟨_, rfl, .inl ⟨rfl, _, SqL.of hfo6⟩, _, rfl, fo, _, iV mm.2, rfl, rfl, hfo6, by rw [List.length_map]; exact small1000 (by omega), ?_⟩
          have s7 : Same H (L2.upd H6 fo (.lst (Lb.map iV ++ [iV mm.2]))) := Same.over s6 hfo
          have hfo7 : (L2.upd H6 fo (.lst (Lb.map iV ++ [iV mm.2]))) fo = some (.lst (Lb.map iV ++ [iV mm.2])) := upd_same
          have hwa7 : (L2.upd H6 fo (.lst (Lb.map iV ++ [iV mm.2]))) wa = some (.lst (Wb.map iV)) := by rw [upd_ne (Ne.symm nfw)]; exact hwa6
          have hp7 : (L2.upd H6 fo (.lst (Lb.map iV ++ [iV mm.2]))) p = some (.lst (ps.map V.ref)) := by rw [upd_ne npf]; exact hp6
          have t7 : Tle H6 (L2.upd H6 fo (.lst (Lb.map iV ++ [iV mm.2]))) := tle_lst hfo6
          generalize L2.upd H6 fo (.lst (Lb.map iV ++ [iV mm.2])) = H7 at s7 hfo7 hwa7 hp7 t7
          refine ⟨_, rfl, .inl ⟨rfl, _, SqL.of hwa7⟩, _, rfl, wa, _, iV mm.2, rfl, rfl, hwa7, by rw [List.length_map]; exact small1000 (by omega), _, _, Lb ++ [mm.2], Wb ++ [mm.2], rfl, Same.over s7 hwa0, ?_, ?_, ?_, paired_map hpa6 fun _ _ q => NEnt.tle (Tle.trans t7 (tle_lst hwa7)) q, hI7, List.mem_append_left _ hx6, ?_⟩
          · rw [upd_ne nfw, hfo7, List.map_append]
            rfl
          · rw [upd_same, List.map_append]
            rfl
          · rw [upd_ne npw]
            exact hp7
          · rw [List.length_append, List.length_append, List.length_singleton]
            omega
      · rintro σ H6 ⟨x6, x7, Lb, Wb, rfl, s6, hfo6, hwa6, hp6, hpa6, hI6, hx6, hm6⟩
        rw [List.length_map, lps, List.drop_length] at hI6
        exact ⟨_, hm6, _, _, _, Lb, Wb, x, rfl, s6, hfo6, hwa6, hI6, Nat.le_refl _⟩

def sp_lclosed (K : PySem.W.Frag) (w : World) : Sp := fun vs H Q _ => ∃ (t l b p : Addr) (many : Nat) (sts : List StepD) (R : List Str) (bad L : List Nat), vs = [.ref t, .ref l, .ref b, .ref p] ∧ TabIn K H t l many sts R ∧ SqL K H b (bad.map iV) ∧ SqL K H p (L.map iV) ∧ (∀ s ∈ L, s < many) ∧ L.length ≤ 60 ∧
  ∀ H', Same H H' → Q (.bl (cloB (grOf many sts R) bad L)) H'

theorem sc_lclosed : FnScope ["_law_table_here", "_law_rules_here", "_law_bad_here", "_law_some", "_law_stand", "_law_here", "_law_word_here", "_law_other"] ["_law_table_here", "_law_rules_here", "_law_bad_here", "_law_some"] (defScope s__law_is_closed) := ⟨rfl, rfl, rfl, by decide +kernel, rfl, by decide +kernel, by decide +kernel⟩
theorem ok_lclosed (T : Tx K mg)  (D : Df K mg "_law_is_closed" s__law_is_closed) (c__law_next : Cal w K mg base CX0 1 "_law_next" ["_law_table_here", "_law_rules_here", "_law_here"] (sp_next K w)) : Cal w K mg base CX0 2 "_law_is_closed" ["_law_table_here", "_law_rules_here", "_law_bad_here", "_law_some"] (sp_lclosed K w) := by
  have nd := sc_lclosed.nd
  refine D.ok (N := ["_law_table_here", "_law_rules_here", "_law_bad_here", "_law_some", "_law_stand", "_law_here", "_law_word_here", "_law_other"]) sc_lclosed (fun vs H Q E h => ?_) (fun _ _ _ _ _ _ us hl => match us, hl with | [_, _, _, _], _ => rfl) (fun cdv A outer s H vs Q E hr h => ?_)
  · obtain ⟨t, l, b, p, many, sts, R, bad, L, rfl, hT, hb, hp, hlt, hf, q⟩ := h
    rfl
  · have hu := hu_of hr
    obtain ⟨t, l, b, p, many, sts, R, bad, L, rfl, hT, hb, hp, hlt, hf, q⟩ := h
    refine ⟨_, PSs.nox (pss_cons (ps_if (PW.pt (pw_or (pt_cmpR op_notIn_seq pe_int (pv 3) (by with_unfolding_all rfl)) (pw_or1 (pt_val (pe_callB (cr_any rfl) (by rfl) T.n_any (by decide +kernel) (pa_cons (pe_lc (own := [("_law_stand", 4)]) (by rfl) nd (pi_list (pv 3)) (blkOk_by (own := [("_law_stand", 4)]) (N := ["_law_table_here", "_law_rules_here", "_law_bad_here", "_law_some", "_law_stand", "_law_here", "_law_word_here", "_law_other"]) (sc := defScope s__law_is_closed) (by decide +kernel)) (fun _ _ _ _ _ => (pg_name (i := 4) nd rfl (by first | exact Or.inl rfl | exact Or.inr rfl))) (fun _ _ _ _ _ => pts_nil) (fun _ _ _ _ _ => (pe_cmpR (show OpR _ _ (rIn K false) from op_in_seq) (pv 4) (pv 2) (by with_unfolding_all rfl)))) pa_nil)))))) (pss_one (ps_ret pe_bl)) pss_nil)
      (pss_one (ps_ret (pe_callB (cr_all rfl) (by rfl) T.n_all (by decide +kernel) (pa_cons (pe_lc (own := [("_law_here", 5)]) (by rfl) nd (pi_list (pv 3)) (blkOk_by (own := [("_law_here", 5)]) (N := ["_law_table_here", "_law_rules_here", "_law_bad_here", "_law_some", "_law_stand", "_law_here", "_law_word_here", "_law_other"]) (sc := defScope s__law_is_closed) (by decide +kernel)) (fun _ _ _ _ _ => (pg_name (i := 5) nd rfl (by first | exact Or.inl rfl | exact Or.inr rfl))) (fun _ _ _ _ _ => pts_nil) (fun _ _ _ _ _ => (pe_callB (show CallR _ _ (rAll K) from cr_all rfl) (by rfl) T.n_all (by decide +kernel) (pa_cons (pe_lc (own := [("_law_word_here", 6), ("_law_other", 7)]) (by rfl) nd (show PI _ _ _ (iList K _) from pi_list (pe_cal rfl c__law_next (hr.mono (by first | decide | (simp only [Nat.add_eq]; omega))) pass0 (pa_cons (pv 0) (pa_cons (pv 1) (pa_cons (pv 5) pa_nil))))) (by refine blkOk_by (own := [("_law_word_here", 6), ("_law_other", 7)]) (N := ["_law_table_here", "_law_rules_here", "_law_bad_here", "_law_some", "_law_stand", "_law_here", "_law_word_here", "_law_other"]) ?_; kernel_rfl) (fun _ _ _ _ _ => (show PG _ _ (gTup K 2 _) from pg_tup rfl (pgs_cons (pg_name (i := 6) nd rfl (by first | exact Or.inl rfl | exact Or.inr rfl)) (pgs_cons (pg_name (i := 7) nd rfl (by first | exact Or.inl rfl | exact Or.inr rfl)) pgs_nil)))) (fun _ _ _ _ _ => pts_nil) (fun _ _ _ _ _ => (pe_cmpR (show OpR _ _ (rIn K false) from op_in_seq) (pv 7) (pv 3) (by with_unfolding_all rfl)))) pa_nil)))) pa_nil))))), ?_⟩
    have hGl : (grOf many sts R).length = many := grOf_len
    refine ⟨_, rfl, p, _, rfl, .inl hp, rfl, flat_nats L, _, rfl, ?_⟩
    have e0 : (if true = true then !inV (V.int 0) (L.map iV) else inV (V.int 0) (L.map iV)) = !decide (0 ∈ L) := congrArg not (inV_nat (n := 0) (ms := L))
    rw [e0]
    by_cases h0 : 0 ∈ L
    · rw [decide_eq_true h0]
      refine ⟨_, rfl, p, rfl, ⟨_, hp⟩, fun D hD => ?_⟩
      refine lc_fm (walk_list (xs := L.map iV)) (L.map fun s => some (V.bl (decide (s ∈ bad)))) (by simp) (by rw [List.length_map]; exact Nat.le_of_lt (small1000 (by omega))) hD (fun H1 s1 => SqL.leq (Same.leq s1) hp) (fun i o x H1 H2 ho s1 ⟨e, hx⟩ R' hR => ?_) fun H1 s1 hD1 => ?_
      · subst e
        obtain ⟨s, hs, rfl⟩ := map_get hx
        rw [List.getElem?_map, hs] at ho
        cases ho
        refine ⟨rfl, _, rfl, _, rfl, b, _, rfl, .inl (SqL.leq (Same.leq s1) hb), rfl, flat_nats bad, ?_⟩
        rw [show (if false = true then !inV (iV s) (bad.map iV) else inV (iV s) (bad.map iV)) = decide (s ∈ bad) from inV_nat]
        exact hR _ (Same.refl _)
      · rw [fm_some] at hD1
        refine ⟨D, L.map fun s => decide (s ∈ bad), rfl, SqL.of (by rw [hD1, List.map_map]; rfl), _, rfl, ?_⟩
        have ea : (L.map fun s => decide (s ∈ bad)).any id = !(L.all fun s => !decide (s ∈ bad)) := by
          clear hD1 hp hlt hf q e0 h0
          induction L with
          | nil => rfl
          | cons s L ih =>
            rw [List.map_cons, List.any_cons, ih, List.all_cons]
            cases h : decide (s ∈ bad) <;> simp
        rw [ea]
        have hfin : cloB (grOf many sts R) bad L = ((L.all fun s => !decide (s ∈ bad)) && L.all fun s => (row (grOf many sts R) s).all fun m => decide (m.2 ∈ L)) := by
          unfold cloB
          rw [decide_eq_true h0, Bool.true_and]
        rw [hfin] at q
        cases hbd : (L.all fun s => !decide (s ∈ bad)) with
        | false =>
          rw [hbd] at q
          exact q _ s1
        | true =>
          rw [hbd, Bool.true_and] at q
          refine ⟨_, rfl, p, rfl, ⟨_, SqL.leq (Same.leq s1) hp⟩, fun D2 hD2 => ?_⟩
          refine lc_fm (walk_list (xs := L.map iV)) (L.map fun s => some (V.bl ((row (grOf many sts R) s).all fun m => decide (m.2 ∈ L)))) (by simp) (by rw [List.length_map]; exact Nat.le_of_lt (small1000 (by omega))) hD2 (fun H2 s2 => SqL.leq (Same.leq (Same.trans s1 s2)) hp) (fun i o x H2 H3 ho s2 ⟨e, hx⟩ R' hR => ?_) fun H2 s2 hD3 => ?_
          · subst e
            obtain ⟨s, hs, rfl⟩ := map_get hx
            rw [List.getElem?_map, hs] at ho
            cases ho
            have s12 := Same.trans s1 s2
            have hsm : s < many := hlt s (List.mem_of_getElem? hs)
            have hr60 := grOf_few (R := R) hT.ok s
            refine ⟨rfl, _, rfl, _, rfl, _, rfl, t, l, many, sts, R, s, rfl, TabIn.leq (Same.leq s12) hT, hsm, fun p2 H5 s5 hp0 ⟨ps, hps, hpa⟩ => ?_⟩
            have lps : ps.length = (row (grOf many sts R) s).length := Paired.length hpa
            refine ⟨p2, rfl, ⟨_, SqL.of hps⟩, fun D4 hD4 => ?_⟩
            refine lc_fm (walk_list (xs := ps.map V.ref)) ((row (grOf many sts R) s).map fun m => some (V.bl (decide (m.2 ∈ L)))) (by rw [List.length_map, List.length_map, lps]) (by rw [List.length_map]; exact Nat.le_of_lt (small1000 (by omega))) hD4 (fun H6 s6 => SqL.of (s6 _ _ hps)) (fun j o y H6 H7 ho s6 ⟨e, hy⟩ R2 hR2 => ?_) fun H6 s6 hD6 => ?_
            · subst e
              generalize eσ : wipe _ _ = σ0
              have eσ : σ0 = [some (.ref t), some (.ref l), some (.ref b), some (.ref p), none, some (iV s), none, none] := eσ.symm.trans rfl
              subst eσ
              obtain ⟨q0, hq0, rfl⟩ := map_get hy
              obtain ⟨mm, hmm, wv, g1, g2⟩ := paired_get hpa hq0
              rw [List.getElem?_map, hmm] at ho
              cases ho
              refine ⟨q0, _, rfl, SqT.leq (Same.leq s6) g1, rfl, _, _, rfl, _, _, rfl, rfl, rfl, ?_⟩
              refine ⟨_, rfl, _, rfl, p, _, rfl, .inl (SqL.leq (Same.leq (Same.trans s12 (Same.trans s5 s6))) hp), rfl, flat_nats L, ?_⟩
              rw [show (if false = true then !inV (iV mm.2) (L.map iV) else inV (iV mm.2) (L.map iV)) = decide (mm.2 ∈ L) from inV_nat]
              exact hR2 _ (Same.refl _)
            · rw [fm_some] at hD6
              refine ⟨D4, (row (grOf many sts R) s).map fun m => decide (m.2 ∈ L), rfl, SqL.of (by rw [hD6, List.map_map]; rfl), ?_⟩
              rw [List.all_map]
              exact hR _ (Same.trans s5 s6)
          · rw [fm_some] at hD3
            refine ⟨D2, L.map fun s => (row (grOf many sts R) s).all fun m => decide (m.2 ∈ L), rfl, SqL.of (by rw [hD3, List.map_map]; rfl), ?_⟩
            rw [List.all_map]
            exact q _ (Same.trans s1 s2)
    · rw [decide_eq_false h0]
      have e : cloB (grOf many sts R) bad L = false := by
        unfold cloB
        rw [decide_eq_false h0]
        rfl
      rw [e] at q
      exact q _ (Same.refl _)

end
end FF
namespace FF
open PySem PySem.Spec PyProof.Rows L2
mutual
def okD : PyData → Bool
  | .list ds | .tuple ds => decide (ds.length ≤ 1000) && okDs ds
  | .dict _ => false
  | .none | .bool _ | .int _ | .str _ => true
def okDs : List PyData → Bool
  | [] => true
  | d :: ds => okD d && okDs ds
end
theorem okDs_at : ∀ {ds : List PyData} {i : Nat} {d : PyData}, okDs ds = true → ds[i]? = some d → okD d = true
  | [], _, _, _, h => by simp at h
  | d :: ds, i, e, h, hi => by
    simp only [okDs, Bool.and_eq_true] at h
    cases i with
    | zero =>
      cases hi
      exact h.1
    | succ i => exact okDs_at h.2 (by simpa using hi)
theorem depthAll_at : ∀ {ds : List PyData} {i : Nat} {d : PyData}, ds[i]? = some d → d.depth ≤ PyData.depthAll ds
  | [], _, _, h => by simp at h
  | d :: ds, i, e, hi => by
    simp only [PyData.depthAll]
    cases i with
    | zero =>
      cases hi
      exact Nat.le_max_left _ _
    | succ i => exact Nat.le_trans (depthAll_at (ds := ds) (i := i) (by simpa using hi)) (Nat.le_max_right _ _)
section
variable {w : World} {K : PySem.W.Frag} {mg : Str → Option Value} {base : Heap}
theorem walk_zipT {a b : Addr} {xs ys : List V} {n : Nat} (hn : n = min xs.length ys.length) : Walk (RZ.ItzT K a b) n (fun H => SqT K H a xs ∧ SqT K H b ys) (YPair (fun i => xs[i]?) (fun i => ys[i]?)) :=
  ⟨fun i H hi ⟨h1, h2⟩ => ⟨xs, ys, xs[i]'(by omega), ys[i]'(by omega), h1, h2, List.getElem?_eq_getElem _, List.getElem?_eq_getElem _⟩, fun H ⟨h1, h2⟩ => ⟨xs, ys, h1, h2, by omega⟩,
    fun i H v H' _ ⟨h1, h2⟩ ⟨T, x, y, e1, e2, e3, q1, q2⟩ => ⟨T, x, y, e1, e2, e3, q1 xs h1, q2 ys h2⟩⟩
theorem dpAll_at {H : Hp} : ∀ {xs : List V} {ds : List PyData}, DpAll K H xs ds → xs.length = ds.length ∧ ∀ {i : Nat} {x : V}, xs[i]? = some x → ∃ d, ds[i]? = some d ∧ Dp K H x d
  | _, _, .nil => ⟨rfl, fun h => by simp at h⟩
  | _, _, .cons a b => by
    obtain ⟨h1, h2⟩ := dpAll_at b
    refine ⟨by simp [h1], fun {i x} h => ?_⟩
    cases i with
    | zero =>
      cases h
      exact ⟨_, rfl, a⟩
    | succ i =>
      obtain ⟨d, q1, q2⟩ := h2 (i := i) (by simpa using h)
      exact ⟨d, by simpa using q1, q2⟩
def sp_same (K : PySem.W.Frag) (w : World) (n : Nat) : Sp := fun vs H Q _ => ∃ (x y : V) (d : PyData), vs = [x, y] ∧ Dp K H x d ∧ Dp K H y d ∧ okD d = true ∧ d.depth < n ∧ ∀ H', Same H H' → Q (.bl true) H'

theorem sc_same : FnScope ["_law_found", "_law_due", "_law_x", "_law_y"] ["_law_found", "_law_due"] (defScope s__law_same) := ⟨rfl, rfl, rfl, by decide +kernel, rfl, by decide +kernel, by decide +kernel⟩
theorem ok_same (T : Tx K mg)  (D : Df K mg "_law_same" s__law_same)  : ∀ n, Cal w K mg base CX0 (5 + n) "_law_same" ["_law_found", "_law_due"] ((sp_same K w) n) := by
  have nd := sc_same.nd
  intro n
  induction n with
  | zero => exact (D.nil (fun _ _ _ _ _ _ us hl => match us, hl with | [_, _], _ => rfl)).imp (fun _ _ _ _ ⟨_, _, _, _, _, _, _, h, _⟩ => absurd h (Nat.not_lt_zero _))
  | succ n c__law_same =>
  refine D.ok (N := ["_law_found", "_law_due", "_law_x", "_law_y"]) sc_same (fun vs H Q E h => ?_) (fun _ _ _ _ _ _ us hl => match us, hl with | [_, _], _ => rfl) (fun cdv A outer s H vs Q E hr h => ?_)
  · obtain ⟨x, y, d, rfl, hx, hy, hok, hd, q⟩ := h
    rfl
  · have hu := hu_of hr
    obtain ⟨x, y, d, rfl, hx, hy, hok, hd, q⟩ := h
    refine ⟨_, PSs.nox (pss_cons (ps_if (pt_val (pe_callB call_isiT (by rfl) T.n_isinstance (by decide +kernel) (pa_cons (pv 1) (pa_cons (pe_tup (pa_cons (pe_tyN (T := "list") (by rfl) T.n_list (by decide +kernel)) (pa_cons (pe_tyN (T := "tuple") (by rfl) T.n_tuple (by decide +kernel)) pa_nil))) pa_nil)))) (pss_cons (ps_if (PW.pt (pw_or (pt_cmpR op_ne (pe_callB call_isi (by rfl) T.n_isinstance (by decide +kernel) (pa_cons (pv 0) (pa_cons (pe_tyN (T := "list") (by rfl) T.n_list (by decide +kernel)) pa_nil))) (pe_callB call_isi (by rfl) T.n_isinstance (by decide +kernel) (pa_cons (pv 1) (pa_cons (pe_tyN (T := "list") (by rfl) T.n_list (by decide +kernel)) pa_nil))) (nomark _)) (pw_or1 (pt_cmpR op_ne (pe_callB call_isi (by rfl) T.n_isinstance (by decide +kernel) (pa_cons (pv 0) (pa_cons (pe_tyN (T := "tuple") (by rfl) T.n_tuple (by decide +kernel)) pa_nil))) (pe_callB call_isi (by rfl) T.n_isinstance (by decide +kernel) (pa_cons (pv 1) (pa_cons (pe_tyN (T := "tuple") (by rfl) T.n_tuple (by decide +kernel)) pa_nil))) (nomark _))))) (pss_one (ps_ret pe_bl)) pss_nil)
      (pss_one (ps_ret (pe_and (pe_cmpR op_eq (pe_callB call_len_seq (by rfl) T.n_len (by decide +kernel) (pa_cons (pv 0) pa_nil)) (pe_callB call_len_seq (by rfl) T.n_len (by decide +kernel) (pa_cons (pv 1) pa_nil)) (nomark _)) (pe_one (pe_callB (cr_all rfl) (by rfl) T.n_all (by decide +kernel) (pa_cons (pe_lc (own := [("_law_x", 2), ("_law_y", 3)]) (by rfl) nd (RZ.pi_zipA (by rfl) T.n_zip (pa_cons (pv 0) (pa_cons (pv 1) pa_nil))) (blkOk_by (own := [("_law_x", 2), ("_law_y", 3)]) (N := ["_law_found", "_law_due", "_law_x", "_law_y"]) (sc := defScope s__law_same) (by decide +kernel)) (fun _ _ _ _ _ => (show PG _ _ (gTup K 2 _) from pg_tup rfl (pgs_cons (pg_name (i := 2) nd rfl (by first | exact Or.inl rfl | exact Or.inr rfl)) (pgs_cons (pg_name (i := 3) nd rfl (by first | exact Or.inl rfl | exact Or.inr rfl)) pgs_nil)))) (fun _ _ _ _ _ => pts_nil) (fun _ _ _ _ _ => (pe_cal rfl c__law_same (hr.mono (by first | decide | (simp only [Nat.add_eq]; omega))) pass0 (pa_cons (pv 2) (pa_cons (pv 3) pa_nil))))) pa_nil))))))) pss_nil)
      (pss_cons (ps_if (pt_val (pe_callB call_isi (by rfl) T.n_isinstance (by decide +kernel) (pa_cons (pv 1) (pa_cons (pe_tyN (T := "dict") (by rfl) T.n_dict (by decide +kernel)) pa_nil)))) (pss_one ps_never) pss_nil)
      (pss_cons (ps_if (pt_val (pe_callB call_isi (by rfl) T.n_isinstance (by decide +kernel) (pa_cons (pv 1) (pa_cons (pe_tyN (T := "int") (by rfl) T.n_int (by decide +kernel)) pa_nil)))) (pss_one (ps_ret (pe_and (pe_callB call_isi (by rfl) T.n_isinstance (by decide +kernel) (pa_cons (pv 0) (pa_cons (pe_tyN (T := "int") (by rfl) T.n_int (by decide +kernel)) pa_nil))) (pe_and (pe_cmpR op_eq (pe_callB call_isi (by rfl) T.n_isinstance (by decide +kernel) (pa_cons (pv 0) (pa_cons (pe_tyN (T := "bool") (by rfl) T.n_bool (by decide +kernel)) pa_nil))) (pe_callB call_isi (by rfl) T.n_isinstance (by decide +kernel) (pa_cons (pv 1) (pa_cons (pe_tyN (T := "bool") (by rfl) T.n_bool (by decide +kernel)) pa_nil))) (nomark _)) (pe_one (pe_cmpR op_eq (pv 0) (pv 1) (nomark _))))))) pss_nil)
      (pss_one (ps_ret (pe_and (pe_not (pe_callB call_isiT (by rfl) T.n_isinstance (by decide +kernel) (pa_cons (pv 0) (pa_cons (pe_tup (pa_cons (pe_tyN (T := "int") (by rfl) T.n_int (by decide +kernel)) (pa_cons (pe_tyN (T := "list") (by rfl) T.n_list (by decide +kernel)) (pa_cons (pe_tyN (T := "tuple") (by rfl) T.n_tuple (by decide +kernel)) (pa_cons (pe_tyN (T := "dict") (by rfl) T.n_dict (by decide +kernel)) pa_nil))))) pa_nil)))) (pe_one (pe_cmpR op_eq (pv 0) (pv 1) (nomark _))))))))), ?_⟩
    cases hx with
    | non =>
      cases hy
      have hx : KdAt K H (V.non) .non := .non
      refine ⟨_, rfl, (by decide : 2 ≤ sizeLine), fun p hp => ?_⟩
      refine ⟨_, p, _, _, _, _, rfl, upd_same, cls_tys ["list", "tuple"], (KdAt.leq (Same.leq (Same.new hp)) hx).ty, kit_any K _ ["list", "tuple"] (by decide), ?_⟩
      have s1 : Same H (L2.upd H p (.tup [.ty "list", .ty "tuple"])) := Same.new hp
      refine ⟨_, rfl, ?_⟩
      rw [show (["list", "tuple"].any (Kd.non).isa) = false by decide]
      generalize L2.upd H p (.tup [.ty "list", .ty "tuple"]) = H1 at s1
      have hx1 := KdAt.leq (Same.leq s1) hx
      refine ⟨_, rfl, ⟨_, _, _, _, _, rfl, .ty _, hx1.ty, kit_isa K _ (by decide), _, rfl, ?_⟩⟩
      refine iteF ⟨_, rfl, ⟨_, _, _, _, _, rfl, .ty _, hx1.ty, kit_isa K _ (by decide), _, rfl, ?_⟩⟩
      refine iteF ?_
      refine ⟨_, rfl, (by decide : 4 ≤ sizeLine), fun p2 hp2 => ?_⟩
      refine ⟨_, p2, _, _, _, _, rfl, upd_same, cls_tys ["int", "list", "tuple", "dict"], (KdAt.leq (Same.leq (Same.new hp2)) hx1).ty, kit_any K _ ["int", "list", "tuple", "dict"] (by decide), _, rfl, _, rfl, ?_⟩
      have s2 : Same H1 (L2.upd H1 p2 (.tup [.ty "int", .ty "list", .ty "tuple", .ty "dict"])) := Same.new hp2
      rw [show (["int", "list", "tuple", "dict"].any (Kd.non).isa) = false by decide]
      refine iteT ⟨_, rfl, _, rfl, rfl, ?_⟩
      rw [decide_eq_true rfl]
      exact q _ (Same.trans s1 s2)
    | bl b =>
      cases hy
      have hx : KdAt K H (V.bl b) .bl := .bl b
      refine ⟨_, rfl, (by decide : 2 ≤ sizeLine), fun p hp => ?_⟩
      refine ⟨_, p, _, _, _, _, rfl, upd_same, cls_tys ["list", "tuple"], (KdAt.leq (Same.leq (Same.new hp)) hx).ty, kit_any K _ ["list", "tuple"] (by decide), ?_⟩
      have s1 : Same H (L2.upd H p (.tup [.ty "list", .ty "tuple"])) := Same.new hp
      refine ⟨_, rfl, ?_⟩
      rw [show (["list", "tuple"].any (Kd.bl).isa) = false by decide]
      generalize L2.upd H p (.tup [.ty "list", .ty "tuple"]) = H1 at s1
      have hx1 := KdAt.leq (Same.leq s1) hx
      refine ⟨_, rfl, ⟨_, _, _, _, _, rfl, .ty _, hx1.ty, kit_isa K _ (by decide), _, rfl, ?_⟩⟩
      refine iteF ⟨_, rfl, ⟨_, _, _, _, _, rfl, .ty _, hx1.ty, kit_isa K _ (by decide), _, rfl, ?_⟩⟩
      refine iteT ?_
      refine ⟨_, rfl, ⟨_, _, _, _, _, rfl, .ty _, hx1.ty, kit_isa K _ (by decide), _, rfl, ?_⟩⟩
      refine iteT ⟨_, rfl, ⟨_, _, _, _, _, rfl, .ty _, hx1.ty, kit_isa K _ (by decide), ?_⟩⟩
      refine ⟨_, rfl, ⟨_, _, _, _, _, rfl, .ty _, hx1.ty, kit_isa K _ (by decide), rfl, _, rfl, ?_⟩⟩
      rw [decide_eq_true rfl]
      refine ⟨_, rfl, _, rfl, rfl, ?_⟩
      rw [decide_eq_true rfl]
      exact q _ s1
    | int i =>
      cases hy
      have hx : KdAt K H (V.int i) .int := .int i
      refine ⟨_, rfl, (by decide : 2 ≤ sizeLine), fun p hp => ?_⟩
      refine ⟨_, p, _, _, _, _, rfl, upd_same, cls_tys ["list", "tuple"], (KdAt.leq (Same.leq (Same.new hp)) hx).ty, kit_any K _ ["list", "tuple"] (by decide), ?_⟩
      have s1 : Same H (L2.upd H p (.tup [.ty "list", .ty "tuple"])) := Same.new hp
      refine ⟨_, rfl, ?_⟩
      rw [show (["list", "tuple"].any (Kd.int).isa) = false by decide]
      generalize L2.upd H p (.tup [.ty "list", .ty "tuple"]) = H1 at s1
      have hx1 := KdAt.leq (Same.leq s1) hx
      refine ⟨_, rfl, ⟨_, _, _, _, _, rfl, .ty _, hx1.ty, kit_isa K _ (by decide), _, rfl, ?_⟩⟩
      refine iteF ⟨_, rfl, ⟨_, _, _, _, _, rfl, .ty _, hx1.ty, kit_isa K _ (by decide), _, rfl, ?_⟩⟩
      refine iteT ?_
      refine ⟨_, rfl, ⟨_, _, _, _, _, rfl, .ty _, hx1.ty, kit_isa K _ (by decide), _, rfl, ?_⟩⟩
      refine iteT ⟨_, rfl, ⟨_, _, _, _, _, rfl, .ty _, hx1.ty, kit_isa K _ (by decide), ?_⟩⟩
      refine ⟨_, rfl, ⟨_, _, _, _, _, rfl, .ty _, hx1.ty, kit_isa K _ (by decide), rfl, _, rfl, ?_⟩⟩
      rw [decide_eq_true rfl]
      refine ⟨_, rfl, _, rfl, rfl, ?_⟩
      rw [decide_eq_true rfl]
      exact q _ s1
    | str z =>
      cases hy
      have hx : KdAt K H (V.str z) .str := .str z
      refine ⟨_, rfl, (by decide : 2 ≤ sizeLine), fun p hp => ?_⟩
      refine ⟨_, p, _, _, _, _, rfl, upd_same, cls_tys ["list", "tuple"], (KdAt.leq (Same.leq (Same.new hp)) hx).ty, kit_any K _ ["list", "tuple"] (by decide), ?_⟩
      have s1 : Same H (L2.upd H p (.tup [.ty "list", .ty "tuple"])) := Same.new hp
      refine ⟨_, rfl, ?_⟩
      rw [show (["list", "tuple"].any (Kd.str).isa) = false by decide]
      generalize L2.upd H p (.tup [.ty "list", .ty "tuple"]) = H1 at s1
      have hx1 := KdAt.leq (Same.leq s1) hx
      refine ⟨_, rfl, ⟨_, _, _, _, _, rfl, .ty _, hx1.ty, kit_isa K _ (by decide), _, rfl, ?_⟩⟩
      refine iteF ⟨_, rfl, ⟨_, _, _, _, _, rfl, .ty _, hx1.ty, kit_isa K _ (by decide), _, rfl, ?_⟩⟩
      refine iteF ?_
      refine ⟨_, rfl, (by decide : 4 ≤ sizeLine), fun p2 hp2 => ?_⟩
      refine ⟨_, p2, _, _, _, _, rfl, upd_same, cls_tys ["int", "list", "tuple", "dict"], (KdAt.leq (Same.leq (Same.new hp2)) hx1).ty, kit_any K _ ["int", "list", "tuple", "dict"] (by decide), _, rfl, _, rfl, ?_⟩
      have s2 : Same H1 (L2.upd H1 p2 (.tup [.ty "int", .ty "list", .ty "tuple", .ty "dict"])) := Same.new hp2
      rw [show (["int", "list", "tuple", "dict"].any (Kd.str).isa) = false by decide]
      refine iteT ⟨_, rfl, _, rfl, rfl, ?_⟩
      rw [decide_eq_true rfl]
      exact q _ (Same.trans s1 s2)
    | @lst a xs ds hs hxa =>
      cases hy with
      | @lst b ys _ ht hya =>
        have hx : KdAt K H (.ref a) .lst := .lst hs
        have hy : KdAt K H (.ref b) .lst := .lst ht
        obtain ⟨lx, gx⟩ := dpAll_at hxa
        obtain ⟨ly, gy⟩ := dpAll_at hya
        simp only [okD, Bool.and_eq_true, decide_eq_true_eq] at hok
        simp only [PyData.depth] at hd
        refine ⟨_, rfl, (by decide : 2 ≤ sizeLine), fun p hp => ?_⟩
        refine ⟨_, p, _, _, _, _, rfl, upd_same, cls_tys ["list", "tuple"], (KdAt.leq (Same.leq (Same.new hp)) hy).ty, kit_any K _ ["list", "tuple"] (by decide), ?_⟩
        have s1 : Same H (L2.upd H p (.tup [.ty "list", .ty "tuple"])) := Same.new hp
        refine ⟨_, rfl, ?_⟩
        rw [show (["list", "tuple"].any (Kd.lst).isa) = true by decide]
        generalize L2.upd H p (.tup [.ty "list", .ty "tuple"]) = H1 at s1
        have hx1 := KdAt.leq (Same.leq s1) hx
        have hy1 := KdAt.leq (Same.leq s1) hy
        refine ⟨_, rfl, ⟨_, _, _, _, _, rfl, .ty _, hx1.ty, kit_isa K _ (by decide), ?_⟩⟩
        refine ⟨_, rfl, ⟨_, _, _, _, _, rfl, .ty _, hy1.ty, kit_isa K _ (by decide), rfl, _, rfl, iteNS rfl ?_⟩⟩
        refine ⟨_, rfl, ⟨_, _, _, _, _, rfl, .ty _, hx1.ty, kit_isa K _ (by decide), ?_⟩⟩
        refine ⟨_, rfl, ⟨_, _, _, _, _, rfl, .ty _, hy1.ty, kit_isa K _ (by decide), rfl, _, rfl, iteNS rfl ?_⟩⟩
        refine ⟨_, rfl, a, xs, rfl, .inl (SqL.leq (Same.leq s1) hs), ?_⟩
        refine ⟨_, rfl, b, ys, rfl, .inl (SqL.leq (Same.leq s1) ht), rfl, _, rfl, ?_⟩
        rw [decide_eq_true (show V.int (xs.length : Nat) = V.int (ys.length : Nat) by rw [lx, ly])]
        refine ⟨_, rfl, _, rfl, a, b, xs, ys, rfl, .inl ⟨SqL.leq (Same.leq s1) hs, SqL.leq (Same.leq s1) ht, fun D hD => ?_⟩⟩
        refine lc_fm (walk_zip (xs := xs) (ys := ys) (n := xs.length) (by rw [lx, ly, Nat.min_self])) (xs.map fun _ => some (V.bl true)) (by simp) (Nat.le_of_lt (small1000 (by rw [lx]; exact hok.1))) hD (fun H2 s2 => ⟨SqL.leq (Same.leq (Same.trans s1 s2)) hs, SqL.leq (Same.leq (Same.trans s1 s2)) ht⟩) (fun i o v H2 H3 ho s2 ⟨Tp, xi, yi, e1, hTp, e3, q1, q2⟩ R hR => ?_) fun H2 s2 hD2 => ?_
        · subst e1 e3
          generalize eσ : wipe _ _ = σ0
          have eσ : σ0 = [some (.ref a), some (.ref b), none, none] := eσ.symm.trans rfl
          subst eσ
          have q1 : xs[i]? = some xi := q1
          have q2 : ys[i]? = some yi := q2
          rw [List.getElem?_map, q1] at ho
          cases ho
          obtain ⟨dx, hdx, gx'⟩ := gx q1
          obtain ⟨dy, hdy, gy'⟩ := gy q2
          rw [hdx] at hdy
          cases hdy
          have s12 := Same.trans s1 s2
          have s3 : Same H2 (L2.upd H2 Tp (.tup [xi, yi])) := Same.new hTp
          have s13 := Same.leq (Same.trans s12 s3)
          refine ⟨Tp, _, rfl, SqT.of upd_same, rfl, _, _, rfl, _, _, rfl, rfl, rfl, ?_⟩
          refine ⟨_, rfl, _, rfl, xi, yi, dx, rfl, Dp.leq s13 _ _ gx', Dp.leq s13 _ _ gy', okDs_at hok.2 hdx, ?_, fun H4 s4 => hR _ (Same.trans s3 s4)⟩
          have := depthAll_at hdx
          omega
        · rw [fm_some] at hD2
          refine ⟨D, xs.map fun _ => true, rfl, SqL.of (by rw [hD2, List.map_map]; rfl), ?_⟩
          rw [show (xs.map fun _ => true).all id = true by simp]
          exact q _ (Same.trans s1 s2)

    | @tup a xs ds hs hxa =>
      cases hy with
      | @tup b ys _ ht hya =>
        have hx : KdAt K H (.ref a) .tup := .tup hs
        have hy : KdAt K H (.ref b) .tup := .tup ht
        obtain ⟨lx, gx⟩ := dpAll_at hxa
        obtain ⟨ly, gy⟩ := dpAll_at hya
        simp only [okD, Bool.and_eq_true, decide_eq_true_eq] at hok
        simp only [PyData.depth] at hd
        refine ⟨_, rfl, (by decide : 2 ≤ sizeLine), fun p hp => ?_⟩
        refine ⟨_, p, _, _, _, _, rfl, upd_same, cls_tys ["list", "tuple"], (KdAt.leq (Same.leq (Same.new hp)) hy).ty, kit_any K _ ["list", "tuple"] (by decide), ?_⟩
        have s1 : Same H (L2.upd H p (.tup [.ty "list", .ty "tuple"])) := Same.new hp
        refine ⟨_, rfl, ?_⟩
        rw [show (["list", "tuple"].any (Kd.tup).isa) = true by decide]
        generalize L2.upd H p (.tup [.ty "list", .ty "tuple"]) = H1 at s1
        have hx1 := KdAt.leq (Same.leq s1) hx
        have hy1 := KdAt.leq (Same.leq s1) hy
        refine ⟨_, rfl, ⟨_, _, _, _, _, rfl, .ty _, hx1.ty, kit_isa K _ (by decide), ?_⟩⟩
        refine ⟨_, rfl, ⟨_, _, _, _, _, rfl, .ty _, hy1.ty, kit_isa K _ (by decide), rfl, _, rfl, iteNS rfl ?_⟩⟩
        refine ⟨_, rfl, ⟨_, _, _, _, _, rfl, .ty _, hx1.ty, kit_isa K _ (by decide), ?_⟩⟩
        refine ⟨_, rfl, ⟨_, _, _, _, _, rfl, .ty _, hy1.ty, kit_isa K _ (by decide), rfl, _, rfl, iteNS rfl ?_⟩⟩
        refine ⟨_, rfl, a, xs, rfl, .inr (SqT.leq (Same.leq s1) hs), ?_⟩
        refine ⟨_, rfl, b, ys, rfl, .inr (SqT.leq (Same.leq s1) ht), rfl, _, rfl, ?_⟩
        rw [decide_eq_true (show V.int (xs.length : Nat) = V.int (ys.length : Nat) by rw [lx, ly])]
        refine ⟨_, rfl, _, rfl, a, b, xs, ys, rfl, .inr ⟨SqT.leq (Same.leq s1) hs, SqT.leq (Same.leq s1) ht, fun D hD => ?_⟩⟩
        refine lc_fm (walk_zipT (xs := xs) (ys := ys) (n := xs.length) (by rw [lx, ly, Nat.min_self])) (xs.map fun _ => some (V.bl true)) (by simp) (Nat.le_of_lt (small1000 (by rw [lx]; exact hok.1))) hD (fun H2 s2 => ⟨SqT.leq (Same.leq (Same.trans s1 s2)) hs, SqT.leq (Same.leq (Same.trans s1 s2)) ht⟩) (fun i o v H2 H3 ho s2 ⟨Tp, xi, yi, e1, hTp, e3, q1, q2⟩ R hR => ?_) fun H2 s2 hD2 => ?_
        · subst e1 e3
          generalize eσ : wipe _ _ = σ0
          have eσ : σ0 = [some (.ref a), some (.ref b), none, none] := eσ.symm.trans rfl
          subst eσ
          have q1 : xs[i]? = some xi := q1
          have q2 : ys[i]? = some yi := q2
          rw [List.getElem?_map, q1] at ho
          cases ho
          obtain ⟨dx, hdx, gx'⟩ := gx q1
          obtain ⟨dy, hdy, gy'⟩ := gy q2
          rw [hdx] at hdy
          cases hdy
          have s12 := Same.trans s1 s2
          have s3 : Same H2 (L2.upd H2 Tp (.tup [xi, yi])) := Same.new hTp
          have s13 := Same.leq (Same.trans s12 s3)
          refine ⟨Tp, _, rfl, SqT.of upd_same, rfl, _, _, rfl, _, _, rfl, rfl, rfl, ?_⟩
          refine ⟨_, rfl, _, rfl, xi, yi, dx, rfl, Dp.leq s13 _ _ gx', Dp.leq s13 _ _ gy', okDs_at hok.2 hdx, ?_, fun H4 s4 => hR _ (Same.trans s3 s4)⟩
          have := depthAll_at hdx
          omega
        · rw [fm_some] at hD2
          refine ⟨D, xs.map fun _ => true, rfl, SqL.of (by rw [hD2, List.map_map]; rfl), ?_⟩
          rw [show (xs.map fun _ => true).all id = true by simp]
          exact q _ (Same.trans s1 s2)

end
end FF
/-! the def that is handed a lambda, and notes what it raises -/
namespace FF
open PySem PySem.Spec PyProof.Rows L2 LamX
theorem takes_len {X : Cx} {W : WX} (t : Takes X W) : Takes X (fun cls d σ H => σ.length = X.N.length → W cls d σ H) := fun u s' h => by
  obtain ⟨a, B, sI, pins, σ, H, cls, d, h1, I, h3, h4, h5, h6, h7, h8, h9⟩ := h
  exact t u s' ⟨a, B, sI, pins, σ, H, cls, d, h1, I, h3, h4, h5, h6, h7, h8, h9 I.len⟩
/-- _law_met(lambda: ..): ('told', v), or ('rules', e.index) -/
def TMet (K : PySem.W.Frag) (C : Addr) : (XK → Hp → VK → Prop) → Hp → VK → Prop := fun tl H Q =>
  tl (fun cls d H' => PySem.W.exmOne K cls (.ref C) = some true ∧ cls = .ref C ∧ ∃ (dd : Addr) (fs : List (Str × V)) (v : V), d = some dd ∧ H' dd = some (.xd fs) ∧ fs.lookup ("index" : Str) = some v ∧ ([V.str "rules", v] : List V).length ≤ sizeLine ∧ ∀ p, H' p = none → Q (.ref p) (L2.upd H' p (.tup [.str "rules", v]))) H
    (fun v H1 => ([V.str "told", v] : List V).length ≤ sizeLine ∧ ∀ p, H1 p = none → Q (.ref p) (L2.upd H1 p (.tup [.str "told", v])))
theorem met_gives {X : Cx} {g C : Addr} {cdg : Value} {q : Str} (hme : X.mg "BadRules" = some (.ref C)) (T : XfC X.K C) (hno : PySem.W.findIn X.K (.ref C) "index" = some none) :
    GivesTo X ["_law_ask", "e"] "_law_met" (defScope s__law_met) g cdg (defBody s__law_met) "_law_ask" q (TMet X.K C) := by
  intro f c' s H Q tl act hc h
  have nd : (["_law_ask", "e"] : List Str).Nodup := by decide +kernel
  have hgl : Gl (cxOf C8.CX0 X.prog X.w X.K X.mg X.base ["_law_ask", "e"] "_law_met" (defScope s__law_met) g cdg X.A X.stack s H C8.E0).nox "BadRules" := rfl
  refine ⟨_, pss_one (ps_try_as (X := (cxOf C8.CX0 X.prog X.w X.K X.mg X.base ["_law_ask", "e"] "_law_met" (defScope s__law_met) g cdg X.A X.stack s H C8.E0).nox) (x := "BadRules") (n := "e") (c := .ref C) (i := 1)
      (tb := fun W D σ H => ∃ Ech : XK, (∀ cls d σ' H', σ'.length = 2 → Ech cls d H' → W cls d σ' H') ∧ σ[0]? = some (some (.ref f)) ∧ H c' = some (CodeO c' q) ∧ tl Ech H (fun v H1 => ([V.str "told", v] : List V).length ≤ sizeLine ∧ ∀ p, H1 p = none → D.rt (.ref p) (L2.upd H1 p (.tup [.str "told", v]))))
      rfl rfl nd rfl rfl ⟨hgl, by decide, .inl hme⟩ L2.takes0 (fun W pn xe tk _ => ?_) (fun a oe cls d pn hz hf => pss_one (ps_ret (pe_tup (pa_cons pe_str (pa_cons (pe_xf T hno hz hf (pv 1)) pa_nil)))))), ?_⟩
  · refine ⟨fun pins s' σ H' D I h' => ?_⟩
    obtain ⟨Ech, hW, h1, h2, h3⟩ := h'
    have hp := fun p1 p2 => act _ pn xe Ech p1 p2 (takes_len tk) fun cls d σ' H' e hl => hW cls d σ' H' hl e
    exact (pss_one (ps_ret (pe_tup (pa_cons pe_str (pa_cons (hp _ _) pa_nil))))).run pins s' σ H' D I ⟨h1, h2, h3⟩
  · refine ⟨_, fun cls d σ' H' hl ⟨e1, e2, dd, fs, v, e3, e4, e5, e6, e7⟩ => ⟨true, e1, fun _ a ha => ?_, fun z => nomatch z⟩, rfl, hc, h⟩
    have hs : (σ'.set 1 (some (V.ref a)))[1]? = some (some (V.ref a)) := by rw [List.getElem?_set]; simp [hl]
    exact ⟨_, hs, rfl, e2, dd, fs, v, e3, e4, e5, e6, e7⟩
end FF
/-! the law itself: what its pieces share -/
namespace FF
open PySem PySem.Spec PyProof.Rows L2
theorem passF {X : Cx} {P : Program} {w : World} : Passes (L2.CX P w) X (fun _ _ _ => False) := fun _ _ _ _ _ _ _ ⟨_, _, _, _, _, _, _, _, _, _, _, _, h⟩ => h.elim
/-- the name of the law's lambdas -/
abbrev lq : Str := (envOfC "law" (defScope s_law) 0 0 Value.none).qual ++ "<lambda>"
theorem sc_met : FnScope ["_law_ask", "e"] ["_law_ask"] (defScope s__law_met) := ⟨rfl, rfl, rfl, by decide +kernel, rfl, by decide +kernel, by decide +kernel⟩
abbrev LN : List Str := ["_law_script", "_law_stream", "_law_turn", "_law_many", "_law_steps_here", "_law_bad_here", "_law_rules_here", "_law_play", "_law_table_here", "_law_levels_here", "_law_lost", "_law_run", "_law_was", "_law_safe", "_law_closed", "_law_bits", "_law_some", "_law_due", "_law_odds", "_law_found", "_law_stand", "_law_s", "_law_other", "_law_odd"]
theorem sc_law : FnScope LN ["_law_script"] (defScope s_law) := ⟨rfl, rfl, rfl, by decide +kernel, rfl, by decide +kernel, by decide +kernel⟩
/-- all that law leans on -/
structure LawC (w : World) (K : PySem.W.Frag) (mg : Str → Option Value) (base : Heap) (P c0 : Addr) : Prop where
  T : Tx K mg
  Pl : PlTx K mg
  Br : BrTx K mg
  Bx : XfC K (brC K)
  exm : PySem.W.exmOne K (.ref (brC K)) (.ref (brC K)) = some true
  Dm : Df K mg "_law_met" s__law_met
  TB : LamX.TabB base mg c0 P
  c__law_start : Cal w K mg base CX0 1 "_law_start" ["_law_script"] (sp_start K w)
  c__law_draw : Cal w K mg base CX0 1 "_law_draw" ["_law_stream", "_law_many"] (sp_draw K w)
  c__law_steps : Cal w K mg base CX0 4 "_law_steps" ["_law_stream", "_law_many", "_law_most"] (sp_steps K w)
  c__law_bad : Cal w K mg base CX0 2 "_law_bad" ["_law_stream", "_law_many"] (sp_bad K w)
  c__law_rules : Cal w K mg base CX0 3 "_law_rules" ["_law_stream"] (sp_rules K w)
  c__law_table : Cal w K mg base CX0 1 "_law_table" ["_law_many", "_law_steps_here"] (sp_table K w)
  c__law_levels : Cal w K mg base CX0 2 "_law_levels" ["_law_table_here", "_law_rules_here"] (sp_levels K w)
  c_break_run : Cal w K mg base (L2.CX Pg w) 5 "break_run" ["play", "rules"] (sp_break_run K w)
  c__law_same : Cal w K mg base CX0 17 "_law_same" ["_law_found", "_law_due"] (sp_same K w 12)
  c_keeps : Cal w K mg base (L2.CX Pg w) 6 "keeps" ["play", "rules"] (sp_keeps K w)
  c__law_walk : Cal w K mg base CX0 2 "_law_walk" ["_law_table_here", "_law_rules_here", "_law_run"] (sp_walk K w)
  c__law_from : Cal w K mg base CX0 2 "_law_from" ["_law_table_here", "_law_rules_here", "_law_start_here"] (sp_from K w)
  c_still_safe : Cal w K mg base (L2.CX Pg w) 6 "still_safe" ["play", "rules"] (sp_still_safe K w)
  c__law_is_closed : Cal w K mg base CX0 2 "_law_is_closed" ["_law_table_here", "_law_rules_here", "_law_bad_here", "_law_some"] (sp_lclosed K w)
  c_is_closed : Cal w K mg base (L2.CX Pg w) 6 "is_closed" ["play", "rules", "thing"] (sp_is_closed K w)
  c__law_mixed : Cal w K mg base CX0 2 "_law_mixed" ["_law_stream", "_law_some"] (sp_mixed K w)
  c_is_integer : Cal w K mg base CX0 1 "is_integer" ["thing"] (sp_is_integer K w)
  c_checked_steps : Cal w K mg base CX0 10 "checked_steps" ["steps", "many"] (sp_checked_steps K w)
  c_checked_stands : Cal w K mg base CX0 4 "checked_stands" ["stands", "many"] (sp_checked_stands K w)
/-- the for's body -/
def lawBody : List Stmt := match defBody s_law with
  | [_, .For _ _ b _ _, _] => b
  | _ => []
abbrev lawX (w : World) (K : PySem.W.Frag) (mg : Str → Option Value) (base : Heap) (fa c0 : Addr) (A : Around) (outer : List Env) (s : Shared) (H0 : Hp) (E : XK) : Cx := (cxOf CX0 Pg w K mg base LN "law" (defScope s_law) fa (.ref c0) A outer s H0 E).nox
abbrev lawA (fa c0 : Addr) (A : Around) (s : Shared) : Around := A.deeper (envOfC "law" (defScope s_law) s.heap.objs.size fa (.ref c0))

end FF
namespace FF
open PySem PySem.Spec PyProof.Rows L2
/-! ### all but tables stays -/
theorem ext_same {H H' : Hp} (s : Same H H') : LamX.ExtN H H' := LamX.ExtN.of s
theorem ext_put {H H1 : Hp} {p : Addr} {o : HO} (e : LamX.ExtN H H1) (h : ∀ u, H p = some u → ∃ ps, u = .tbl ps) : LamX.ExtN H (L2.upd H1 p o) := fun b u q hn => by
  have ne : b ≠ p := fun z => by
    subst z
    obtain ⟨ps, e⟩ := h u q
    exact hn ps e
  rw [upd_ne ne]
  exact e b u q hn
theorem ext_new {H H1 : Hp} {p : Addr} (e : LamX.ExtN H H1) (h : H1 p = none) : ∀ u, H p = some u → ∃ ps, u = .tbl ps := fun u q => Classical.byContradiction fun hn => by
  have := e p u q fun ps z => hn ⟨ps, z⟩
  rw [h] at this
  cases this
theorem ext_tle {H H' : Hp} (e : LamX.ExtN H H') : Tle H H' := fun b xs r => r.elim (fun q => .inl (e _ _ q fun _ z => nomatch z)) fun ⟨o, q⟩ => .inr ⟨o, e _ _ q fun _ z => nomatch z⟩
section
variable {w : World} {K : PySem.W.Frag} {mg : Str → Option Value} {base : Heap}
theorem PlayAt.ext {H H' : Hp} {a : Addr} {many : Nat} {sts : List StepD} {bad : List Nat} (e : LamX.ExtN H H') (h : PlayAt K w H a many sts bad) : PlayAt K w H' a many sts bad := by
  obtain ⟨dx, t, b, ds, ms, h1, h2, h3, h4⟩ := h
  have tl := ext_tle e
  refine ⟨dx, t, b, ds, ms, e _ _ h1 (fun _ z => nomatch z), ⟨e _ _ h2.lst (fun _ z => nomatch z), h2.len, h2.nd, fun i d hd => ?_⟩, e _ _ h3 (fun _ z => nomatch z), h4⟩
  obtain ⟨es, ep, q1, q2⟩ := h2.rows i d hd
  exact ⟨es, ep, e _ _ q1 (fun _ z => nomatch z), paired_map q2 fun x st ⟨r1, r2, s, bt, wv, sd, bars, r3, r4, r5, r6, r7⟩ => ⟨r1, WdAt.tle tl r2, s, bt, wv, sd, bars, r3, e _ _ r4 (fun _ z => nomatch z), word_tle tl _ _ r5, e _ _ r6 (fun _ z => nomatch z), r7⟩⟩
theorem Strm.ext {H H' : Hp} {a c : Addr} {n : Nat} (e : LamX.ExtN H H') (h : Strm H a c n) : Strm H' a c n := let ⟨e0, cells, rem, acc, h1, h2, h3⟩ := h; ⟨e0, cells, rem, acc, e _ _ h1 (fun _ z => nomatch z), e _ _ h2 (fun _ z => nomatch z), h3⟩
theorem tabs_lst {T : List (Addr × Str)} {H : Hp} {D : Addr} {xs ys : List V} (h : LamX.Tabs T H) (hD : H D = some (.lst xs)) : LamX.Tabs T (L2.upd H D (.lst ys)) := fun p hp => by
  obtain ⟨ps, h1, h2, h3⟩ := h p hp
  refine ⟨ps, by rw [upd_ne (ne_of h1 hD (fun z => nomatch z))]; exact h1, h2, fun pos cv q => ?_⟩
  obtain ⟨c, e1, e2⟩ := h3 pos cv q
  exact ⟨c, e1, by rw [upd_ne (ne_of e2 hD (fun z => nomatch z))]; exact e2⟩
/-- a pair ('rules', i) -/
def pairD (i : Int) : PyData := .tuple [.str "rules", .int i]
theorem pair_dp {H : Hp} {p : Addr} {i : Int} (h : H p = some (.tup [.str "rules", .int i])) : Dp K H (.ref p) (pairD i) := .tup (SqT.of h) (.cons (.str "rules") (.cons (.int i) .nil))
theorem badA {H : Hp} : BadR K H [] (.str "A") := ⟨⟨_, .str "A"⟩, fun z e => by cases e; decide, .inl (by decide +kernel)⟩
theorem bad5 {H : Hp} : BadR K H ["look"] (.int 5) := ⟨⟨_, .int 5⟩, (fun z e => nomatch e), .inl rfl⟩
theorem badL {H : Hp} : BadR K H ["look"] (.str "look") := ⟨⟨_, .str "look"⟩, fun z e => by cases e; decide, .inr ⟨"look", by simp, rfl⟩⟩
theorem oneL : Names1 ["look"] := ⟨by decide +kernel, by decide +kernel, by decide +kernel, by decide⟩
theorem noneL : Names1 [] := ⟨(fun _ z => nomatch z), (fun _ z => nomatch z), List.nodup_nil, by decide⟩

/-- the last statements of a turn: the odd rules -/
theorem cE {P c0 fa : Addr} (C : LawC w K mg base P c0) {A : Around} {outer : List Env} {s : Shared} {H0 : Hp} {E : XK} (hr : Room 18 (lawA fa c0 A s)) : ∃ t : TS, PSs (lawX w K mg base fa c0 A outer s H0 E) (lawBody.drop 22) t ∧
    ∀ (D : Ends) (H : Hp) (pl : Addr) (many : Nat) (sts : List StepD) (bad : List Nat) (x0 x1 x2 x3 x4 x5 x6 x8 x9 x10 x11 x12 x13 x14 x15 x16 x17 x18 x19 x20 x21 x22 x23 : Option V), PlayAt K w H pl many sts bad → PlayOk many sts bad → LamX.Tabs [(P, lq)] H →
      (∀ (H' : Hp) (v : Option V), LamX.ExtN H H' → LamX.Tabs [(P, lq)] H' → D.nx [x0, x1, x2, x3, x4, x5, x6, some (.ref pl), x8, x9, x10, x11, x12, x13, x14, x15, x16, x17, x18, v, x20, x21, x22, x23] H') → t D [x0, x1, x2, x3, x4, x5, x6, some (.ref pl), x8, x9, x10, x11, x12, x13, x14, x15, x16, x17, x18, x19, x20, x21, x22, x23] H := by
  obtain ⟨T, Pl, Br, Bx, exm, Dm, TB, c__law_start, c__law_draw, c__law_steps, c__law_bad, c__law_rules, c__law_table, c__law_levels, c_break_run, c__law_same, c_keeps, c__law_walk, c__law_from, c_still_safe, c__law_is_closed, c_is_closed, c__law_mixed, c_is_integer, c_checked_steps, c_checked_stands⟩ := C
  obtain ⟨fm, FM⟩ := Dm.f
  have bM := FM.bindsN (ps := ["_law_ask"]) fun _ _ _ _ _ _ us hl => match us, hl with | [_], _ => rfl
  obtain ⟨ocM, odM, dVM, kVM, docM, pmM, anM, cdvM, ctM, oslM, rfl, lkM, hcdM, _, _⟩ := FM.ex
  have huP : ∀ p ∈ [(P, lq)], p.1 = P → p.2 = lq := fun p hp _ => by rw [List.mem_singleton.mp hp]

  have nd := sc_law.nd
  have hu := hu_of hr
  have hu65 := hu65_of hr
  refine ⟨_, (pss_cons (ps_set (i := 19) nd rfl (by first | exact Or.inl rfl | exact Or.inr rfl) (pe_lst (pa_cons (LamX.pe_lamcall (T := [(P, lq)]) (a := "_law_ask") (Ng := ["_law_ask", "e"]) (k := 8) (t := fun E => _) (by rfl) Dm.g FM.kp lkM hcdM bM sc_met rfl (by first | exact Or.inl rfl | exact Or.inr rfl) (met_gives Br.g Bx Br.no) TB rfl (by exact List.mem_singleton.mpr rfl) (by exact huP) (hr.mono (by decide)) (LamX.lamS_by (by kernel_rfl)) (by rfl) (fun _ _ _ _ _ => rfl) (fun _ _ _ _ _ _ _ hrL => (pe_cal rfl c_keeps (hrL.mono (by decide)) (by exact (passes_call (takes_of rfl rfl rfl rfl) (fun _ _ _ _ h => h))) (pa_cons (pv 7) (pa_cons (pe_lst (pa_cons pe_str pa_nil)) pa_nil))))) pa_nil)))
      (pss_cons (ps_expr (pe_bm PySem.F.plainAttrs_list PySem.F.slot_list_append PySem.F.type_list_append mt_append (pv 19) (pa_cons (LamX.pe_lamcall (T := [(P, lq)]) (a := "_law_ask") (Ng := ["_law_ask", "e"]) (k := 8) (t := fun E => _) (by rfl) Dm.g FM.kp lkM hcdM bM sc_met rfl (by first | exact Or.inl rfl | exact Or.inr rfl) (met_gives Br.g Bx Br.no) TB rfl (by exact List.mem_singleton.mpr rfl) (by exact huP) (hr.mono (by decide)) (LamX.lamS_by (by kernel_rfl)) (by rfl) (fun _ _ _ _ _ => rfl) (fun _ _ _ _ _ _ _ hrL => (pe_cal rfl c_break_run (hrL.mono (by decide)) (by exact (passes_call (takes_of rfl rfl rfl rfl) (fun _ _ _ _ h => h))) (pa_cons (pv 7) (pa_cons pe_non pa_nil))))) pa_nil)))
      (pss_cons (ps_expr (pe_bm PySem.F.plainAttrs_list PySem.F.slot_list_append PySem.F.type_list_append mt_append (pv 19) (pa_cons (LamX.pe_lamcall (T := [(P, lq)]) (a := "_law_ask") (Ng := ["_law_ask", "e"]) (k := 8) (t := fun E => _) (by rfl) Dm.g FM.kp lkM hcdM bM sc_met rfl (by first | exact Or.inl rfl | exact Or.inr rfl) (met_gives Br.g Bx Br.no) TB rfl (by exact List.mem_singleton.mpr rfl) (by exact huP) (hr.mono (by decide)) (LamX.lamS_by (by kernel_rfl)) (by rfl) (fun _ _ _ _ _ => rfl) (fun _ _ _ _ _ _ _ hrL => (pe_cal rfl c_still_safe (hrL.mono (by decide)) (by exact (passes_call (takes_of rfl rfl rfl rfl) (fun _ _ _ _ h => h))) (pa_cons (pv 7) (pa_cons (pe_lst (pa_cons pe_str (pa_cons pe_int pa_nil))) pa_nil))))) pa_nil)))
      (pss_cons (ps_expr (pe_bm PySem.F.plainAttrs_list PySem.F.slot_list_append PySem.F.type_list_append mt_append (pv 19) (pa_cons (LamX.pe_lamcall (T := [(P, lq)]) (a := "_law_ask") (Ng := ["_law_ask", "e"]) (k := 8) (t := fun E => _) (by rfl) Dm.g FM.kp lkM hcdM bM sc_met rfl (by first | exact Or.inl rfl | exact Or.inr rfl) (met_gives Br.g Bx Br.no) TB rfl (by exact List.mem_singleton.mpr rfl) (by exact huP) (hr.mono (by decide)) (LamX.lamS_by (by kernel_rfl)) (by rfl) (fun _ _ _ _ _ => rfl) (fun _ _ _ _ _ _ _ hrL => (pe_cal rfl c_is_closed (hrL.mono (by decide)) (by exact (passes_call (takes_of rfl rfl rfl rfl) (fun _ _ _ _ h => h))) (pa_cons (pv 7) (pa_cons (pe_lst (pa_cons pe_str (pa_cons pe_str pa_nil))) (pa_cons pe_non pa_nil)))))) pa_nil)))
      (pss_one (ps_if (pt_not (pt_val (pe_cal rfl c__law_same (hr.mono (by first | decide | (simp only [Nat.add_eq]; omega))) pass0 (pa_cons (pv 19) (pa_cons (pe_lst (pa_cons (pe_tup (pa_cons pe_str (pa_cons pe_int pa_nil))) (pa_cons (pe_tup (pa_cons pe_str (pa_cons pe_int pa_nil))) (pa_cons (pe_tup (pa_cons pe_str (pa_cons pe_int pa_nil))) (pa_cons (pe_tup (pa_cons pe_str (pa_cons pe_int pa_nil))) pa_nil))))) pa_nil))))) (pss_one (ps_ret pe_bl)) pss_nil)))))), fun D H pl many sts bad x0 x1 x2 x3 x4 x5 x6 x8 x9 x10 x11 x12 x13 x14 x15 x16 x17 x18 x19 x20 x21 x22 x23 hp hok hT q => ?_⟩
  refine ⟨hT, fun H1 e1 hT1 => ?_⟩
  refine ⟨_, rfl, (by decide : 1 ≤ sizeLine), fun l1 hl1 => ⟨pl, .ref l1, many, sts, bad, .inr 0, rfl, ⟨PlayAt.ext (LamX.ExtN.trans e1 (ext_same (Same.new hl1))) hp, hok, .bad (R := []) (y := .str "A") (rest := []) (.inl (SqL.of upd_same)) noneL badA (by decide)⟩, fun d1 H2 s2 hd1 hx1 => ⟨exm, rfl, d1, _, .int (0 : Nat), rfl, hx1, rfl, (by decide : 2 ≤ sizeLine), fun p1 hp1 => ?_⟩⟩⟩
  have s12 : Same H1 (L2.upd H2 p1 (.tup [.str "rules", .int (0 : Nat)])) := Same.then (Same.trans (Same.new hl1) s2) hp1
  have ep1 : (L2.upd H2 p1 (.tup [.str "rules", .int (0 : Nat)])) p1 = some (.tup [.str "rules", .int (0 : Nat)]) := upd_same
  generalize L2.upd H2 p1 (.tup [.str "rules", .int (0 : Nat)]) = H3 at s12 ep1
  have e3 : LamX.ExtN H H3 := LamX.ExtN.trans e1 (ext_same s12)
  have hT3 := LamX.Tabs.ext hT1 s12
  refine ⟨(by decide : 1 ≤ sizeLine), fun fo hfo => ?_⟩
  have hfB := ext_new e3 hfo
  have s34 : Same H3 (L2.upd H3 fo (.lst [.ref p1])) := Same.new hfo
  have ef4 : (L2.upd H3 fo (.lst [.ref p1])) fo = some (.lst [.ref p1]) := upd_same
  generalize L2.upd H3 fo (.lst [.ref p1]) = H4 at s34 ef4
  have e4 : LamX.ExtN H H4 := LamX.ExtN.trans e3 (ext_same s34)
  have hT4 := LamX.Tabs.ext hT3 s34
  have ep1 := s34 _ _ ep1
  refine ⟨_, rfl, .inl ⟨rfl, _, SqL.of ef4⟩, hT4, fun H20 e20 hT20 => ?_⟩
  have eB2 := LamX.ExtN.trans e4 e20
  refine ⟨_, rfl, pl, .non, many, sts, bad, .inr 0, rfl, ⟨PlayAt.ext eB2 hp, hok, .no .non (by decide) (by decide)⟩, fun d2 H21 sA2 hd2 hx2 => ⟨exm, rfl, d2, _, .int (0 : Nat), rfl, hx2, rfl, (by decide : 2 ≤ sizeLine), fun p2 hp2 => ?_⟩⟩
  have sB2 : Same H20 (L2.upd H21 p2 (.tup [.str "rules", .int (0 : Nat)])) := Same.then sA2 hp2
  have ep2 : (L2.upd H21 p2 (.tup [.str "rules", .int (0 : Nat)])) p2 = some (.tup [.str "rules", .int (0 : Nat)]) := upd_same
  generalize L2.upd H21 p2 (.tup [.str "rules", .int (0 : Nat)]) = H22 at sB2 ep2
  have eC2 : LamX.ExtN H4 H22 := LamX.ExtN.trans e20 (ext_same sB2)
  have ef2 : H22 fo = some (.lst [.ref p1]) := eC2 _ _ ef4 (fun _ z => nomatch z)
  refine ⟨fo, _, .ref p2, rfl, rfl, ef2, (by decide : 1 < sizeLine), ?_⟩
  have keep2 : ∀ b o, b ≠ fo → H22 b = some o → (L2.upd H22 fo (.lst ([.ref p1] ++ [.ref p2]))) b = some o := fun b o hb q => by rw [upd_ne hb]; exact q
  have hTs2 : LamX.Tabs [(P, lq)] (L2.upd H22 fo (.lst ([.ref p1] ++ [.ref p2]))) := tabs_lst (LamX.Tabs.ext hT20 sB2) ef2
  have eD2 : LamX.ExtN H (L2.upd H22 fo (.lst ([.ref p1] ++ [.ref p2]))) := ext_put (LamX.ExtN.trans e4 eC2) hfB
  have efn2 : (L2.upd H22 fo (.lst ([.ref p1] ++ [.ref p2]))) fo = some (.lst ([.ref p1] ++ [.ref p2])) := upd_same
  have np12 : p1 ≠ fo := fun e => by rw [e, ef4] at ep1; cases ep1
  have ep1 := keep2 _ _ np12 (eC2 _ _ ep1 (fun _ z => nomatch z))
  have np2 : p2 ≠ fo := fun e => by rw [e, ef2] at ep2; cases ep2
  have ep2 := keep2 _ _ np2 ep2
  generalize L2.upd H22 fo (.lst ([.ref p1] ++ [.ref p2])) = H23 at hTs2 eD2 efn2 ep1 ep2
  clear ef4 hT4 e4
  have ef4 := efn2
  have hT4 := hTs2
  have e4 := eD2
  refine ⟨_, rfl, .inl ⟨rfl, _, SqL.of ef4⟩, hT4, fun H30 e30 hT30 => ?_⟩
  have eB3 := LamX.ExtN.trans e4 e30
  refine ⟨_, rfl, (by decide : 2 ≤ sizeLine), fun l3 hl3 => ⟨pl, .ref l3, many, sts, bad, .inr 1, rfl, ⟨PlayAt.ext (LamX.ExtN.trans eB3 (ext_same (Same.new hl3))) hp, hok, .bad (R := ["look"]) (y := .int 5) (rest := []) (.inl (SqL.of upd_same)) oneL bad5 (by decide)⟩, fun d3 H31 sA3' hd3 hx3 => ⟨exm, rfl, d3, _, .int (1 : Nat), rfl, hx3, rfl, (by decide : 2 ≤ sizeLine), fun p3 hp3 => ?_⟩⟩⟩
  have sA3 := Same.trans (Same.new (o := .lst [.str "look", .int 5]) hl3) sA3'
  have sB3 : Same H30 (L2.upd H31 p3 (.tup [.str "rules", .int (1 : Nat)])) := Same.then sA3 hp3
  have ep3 : (L2.upd H31 p3 (.tup [.str "rules", .int (1 : Nat)])) p3 = some (.tup [.str "rules", .int (1 : Nat)]) := upd_same
  generalize L2.upd H31 p3 (.tup [.str "rules", .int (1 : Nat)]) = H32 at sB3 ep3
  have eC3 : LamX.ExtN H23 H32 := LamX.ExtN.trans e30 (ext_same sB3)
  have ef3 : H32 fo = some (.lst [.ref p1, .ref p2]) := eC3 _ _ ef4 (fun _ z => nomatch z)
  refine ⟨fo, _, .ref p3, rfl, rfl, ef3, (by decide : 2 < sizeLine), ?_⟩
  have keep3 : ∀ b o, b ≠ fo → H32 b = some o → (L2.upd H32 fo (.lst ([.ref p1, .ref p2] ++ [.ref p3]))) b = some o := fun b o hb q => by rw [upd_ne hb]; exact q
  have hTs3 : LamX.Tabs [(P, lq)] (L2.upd H32 fo (.lst ([.ref p1, .ref p2] ++ [.ref p3]))) := tabs_lst (LamX.Tabs.ext hT30 sB3) ef3
  have eD3 : LamX.ExtN H (L2.upd H32 fo (.lst ([.ref p1, .ref p2] ++ [.ref p3]))) := ext_put (LamX.ExtN.trans e4 eC3) hfB
  have efn3 : (L2.upd H32 fo (.lst ([.ref p1, .ref p2] ++ [.ref p3]))) fo = some (.lst ([.ref p1, .ref p2] ++ [.ref p3])) := upd_same
  have np13 : p1 ≠ fo := fun e => by rw [e, ef4] at ep1; cases ep1
  have ep1 := keep3 _ _ np13 (eC3 _ _ ep1 (fun _ z => nomatch z))
  have np23 : p2 ≠ fo := fun e => by rw [e, ef4] at ep2; cases ep2
  have ep2 := keep3 _ _ np23 (eC3 _ _ ep2 (fun _ z => nomatch z))
  have np3 : p3 ≠ fo := fun e => by rw [e, ef3] at ep3; cases ep3
  have ep3 := keep3 _ _ np3 ep3
  generalize L2.upd H32 fo (.lst ([.ref p1, .ref p2] ++ [.ref p3])) = H33 at hTs3 eD3 efn3 ep1 ep2 ep3
  clear ef4 hT4 e4
  have ef4 := efn3
  have hT4 := hTs3
  have e4 := eD3
  refine ⟨_, rfl, .inl ⟨rfl, _, SqL.of ef4⟩, hT4, fun H40 e40 hT40 => ?_⟩
  have eB4 := LamX.ExtN.trans e4 e40
  refine ⟨_, rfl, (by decide : 2 ≤ sizeLine), fun l4 hl4 => ⟨pl, .ref l4, .non, many, sts, bad, .inr 1, none, rfl, ⟨PlayAt.ext (LamX.ExtN.trans eB4 (ext_same (Same.new hl4))) hp, hok, .bad (R := ["look"]) (y := .str "look") (rest := []) (.inl (SqL.of upd_same)) oneL badL (by decide)⟩, (fun _ z => nomatch z), fun d4 H41 sA4' hd4 hx4 => ⟨exm, rfl, d4, _, .int (1 : Nat), rfl, hx4, rfl, (by decide : 2 ≤ sizeLine), fun p4 hp4 => ?_⟩⟩⟩
  have sA4 := Same.trans (Same.new (o := .lst [.str "look", .str "look"]) hl4) sA4'
  have sB4 : Same H40 (L2.upd H41 p4 (.tup [.str "rules", .int (1 : Nat)])) := Same.then sA4 hp4
  have ep4 : (L2.upd H41 p4 (.tup [.str "rules", .int (1 : Nat)])) p4 = some (.tup [.str "rules", .int (1 : Nat)]) := upd_same
  generalize L2.upd H41 p4 (.tup [.str "rules", .int (1 : Nat)]) = H42 at sB4 ep4
  have eC4 : LamX.ExtN H33 H42 := LamX.ExtN.trans e40 (ext_same sB4)
  have efX : H42 fo = some (.lst [.ref p1, .ref p2, .ref p3]) := eC4 _ _ ef4 (fun _ z => nomatch z)
  refine ⟨fo, _, .ref p4, rfl, rfl, efX, (by decide : 3 < sizeLine), ?_⟩
  have keep4 : ∀ b o, b ≠ fo → H42 b = some o → (L2.upd H42 fo (.lst ([.ref p1, .ref p2, .ref p3] ++ [.ref p4]))) b = some o := fun b o hb q => by rw [upd_ne hb]; exact q
  have hTs4 : LamX.Tabs [(P, lq)] (L2.upd H42 fo (.lst ([.ref p1, .ref p2, .ref p3] ++ [.ref p4]))) := tabs_lst (LamX.Tabs.ext hT40 sB4) efX
  have eD4 : LamX.ExtN H (L2.upd H42 fo (.lst ([.ref p1, .ref p2, .ref p3] ++ [.ref p4]))) := ext_put (LamX.ExtN.trans e4 eC4) hfB
  have efn4 : (L2.upd H42 fo (.lst ([.ref p1, .ref p2, .ref p3] ++ [.ref p4]))) fo = some (.lst ([.ref p1, .ref p2, .ref p3] ++ [.ref p4])) := upd_same
  have np14 : p1 ≠ fo := fun e => by rw [e, ef4] at ep1; cases ep1
  have ep1 := keep4 _ _ np14 (eC4 _ _ ep1 (fun _ z => nomatch z))
  have np24 : p2 ≠ fo := fun e => by rw [e, ef4] at ep2; cases ep2
  have ep2 := keep4 _ _ np24 (eC4 _ _ ep2 (fun _ z => nomatch z))
  have np34 : p3 ≠ fo := fun e => by rw [e, ef4] at ep3; cases ep3
  have ep3 := keep4 _ _ np34 (eC4 _ _ ep3 (fun _ z => nomatch z))
  have np4 : p4 ≠ fo := fun e => by rw [e, efX] at ep4; cases ep4
  have ep4 := keep4 _ _ np4 ep4
  generalize L2.upd H42 fo (.lst ([.ref p1, .ref p2, .ref p3] ++ [.ref p4])) = H43 at hTs4 eD4 efn4 ep1 ep2 ep3 ep4
  clear ef4 hT4 e4
  have ef4 := efn4
  have hT4 := hTs4
  have e4 := eD4
  refine ⟨_, rfl, (by decide : 2 ≤ sizeLine), fun q1 hq1 => ?_⟩
  have t1 : Same H43 (L2.upd H43 q1 (.tup [.str "rules", .int 0])) := Same.new hq1
  have eq1 : (L2.upd H43 q1 (.tup [.str "rules", .int 0])) q1 = some (.tup [.str "rules", .int 0]) := upd_same
  generalize L2.upd H43 q1 (.tup [.str "rules", .int 0]) = G1 at t1 eq1
  refine ⟨(by decide : 2 ≤ sizeLine), fun q2 hq2 => ?_⟩
  have t2 : Same G1 (L2.upd G1 q2 (.tup [.str "rules", .int 0])) := Same.new hq2
  have eq2 : (L2.upd G1 q2 (.tup [.str "rules", .int 0])) q2 = some (.tup [.str "rules", .int 0]) := upd_same
  generalize L2.upd G1 q2 (.tup [.str "rules", .int 0]) = G2 at t2 eq2
  refine ⟨(by decide : 2 ≤ sizeLine), fun q3 hq3 => ?_⟩
  have t3 : Same G2 (L2.upd G2 q3 (.tup [.str "rules", .int 1])) := Same.new hq3
  have eq3 : (L2.upd G2 q3 (.tup [.str "rules", .int 1])) q3 = some (.tup [.str "rules", .int 1]) := upd_same
  generalize L2.upd G2 q3 (.tup [.str "rules", .int 1]) = G3 at t3 eq3
  refine ⟨(by decide : 2 ≤ sizeLine), fun q4 hq4 => ?_⟩
  have t4 : Same G3 (L2.upd G3 q4 (.tup [.str "rules", .int 1])) := Same.new hq4
  have eq4 : (L2.upd G3 q4 (.tup [.str "rules", .int 1])) q4 = some (.tup [.str "rules", .int 1]) := upd_same
  generalize L2.upd G3 q4 (.tup [.str "rules", .int 1]) = G4 at t4 eq4
  refine ⟨(by decide : 4 ≤ sizeLine), fun ql hql => ?_⟩
  have t5 : Same G4 (L2.upd G4 ql (.lst [.ref q1, .ref q2, .ref q3, .ref q4])) := Same.new hql
  have eql : (L2.upd G4 ql (.lst [.ref q1, .ref q2, .ref q3, .ref q4])) ql = some (.lst [.ref q1, .ref q2, .ref q3, .ref q4]) := upd_same
  generalize L2.upd G4 ql (.lst [.ref q1, .ref q2, .ref q3, .ref q4]) = G5 at t5 eql
  have t45 := Same.trans t4 t5
  have t35 := Same.trans t3 t45
  have t25 := Same.trans t2 t35
  have t15 := Same.trans t1 t25
  refine ⟨.ref fo, .ref ql, .list [pairD 0, pairD 0, pairD 1, pairD 1], rfl, .lst (SqL.of (t15 _ _ ef4)) (.cons (pair_dp (t15 _ _ ep1)) (.cons (pair_dp (t15 _ _ ep2)) (.cons (pair_dp (t15 _ _ ep3)) (.cons (pair_dp (t15 _ _ ep4)) .nil)))), .lst (SqL.of eql) (.cons (pair_dp (t25 _ _ eq1)) (.cons (pair_dp (t35 _ _ eq2)) (.cons (pair_dp (t45 _ _ eq3)) (.cons (pair_dp (t5 _ _ eq4)) .nil)))), by decide +kernel, by decide +kernel, fun H' s' => ⟨_, rfl, ?_⟩⟩
  have sF := Same.trans t15 s'
  exact q H' _ (LamX.ExtN.trans e4 (ext_same sF)) (LamX.Tabs.ext hT4 sF)

end
end FF
namespace FF
open PySem PySem.Spec PyProof.Rows L2
section
variable {w : World} {K : PySem.W.Frag} {mg : Str → Option Value} {base : Heap}
theorem standB_no {many : Nat} {x : V} {xs : List V} (hx : x ∈ xs) (h : standB many x = false) : (xs.map (standB many)).all id = false := by
  rw [List.all_eq_false]
  exact ⟨_, List.mem_map.mpr ⟨x, hx, rfl⟩, by rw [h]; decide⟩

/-- the odd things asked about, then the last statements -/
theorem cD {P c0 fa : Addr} (C : LawC w K mg base P c0) {A : Around} {outer : List Env} {s : Shared} {H0 : Hp} {E : XK} (hr : Room 18 (lawA fa c0 A s)) : ∃ t : TS, PSs (lawX w K mg base fa c0 A outer s H0 E) (lawBody.drop 20) t ∧
    ∀ (D : Ends) (H : Hp) (pl rl : Addr) (many : Nat) (sts : List StepD) (bad : List Nat) (R : List Str) (x0 x1 x2 x4 x5 x8 x9 x10 x11 x12 x13 x14 x15 x16 x17 x18 x19 x20 x21 x22 x23 : Option V), PlayAt K w H pl many sts bad → PlayOk many sts bad → SqL K H rl (R.map V.str) → Names1 R → LamX.Tabs [(P, lq)] H →
      (∀ (H' : Hp) (v18 v19 : Option V), LamX.ExtN H H' → LamX.Tabs [(P, lq)] H' → D.nx [x0, x1, x2, some (iV many), x4, x5, some (.ref rl), some (.ref pl), x8, x9, x10, x11, x12, x13, x14, x15, x16, x17, v18, v19, x20, x21, x22, x23] H') → t D [x0, x1, x2, some (iV many), x4, x5, some (.ref rl), some (.ref pl), x8, x9, x10, x11, x12, x13, x14, x15, x16, x17, x18, x19, x20, x21, x22, x23] H := by
  obtain ⟨tE, hE, rE⟩ := cE C hr
  obtain ⟨T, Pl, Br, Bx, exm, Dm, TB, c__law_start, c__law_draw, c__law_steps, c__law_bad, c__law_rules, c__law_table, c__law_levels, c_break_run, c__law_same, c_keeps, c__law_walk, c__law_from, c_still_safe, c__law_is_closed, c_is_closed, c__law_mixed, c_is_integer, c_checked_steps, c_checked_stands⟩ := C
  have nd := sc_law.nd
  have hu := hu_of hr
  have hu65 := hu65_of hr
  refine ⟨_, (pss_cons (ps_set (i := 18) nd rfl (by first | exact Or.inl rfl | exact Or.inr rfl) (pe_lst (pa_cons pe_non (pa_cons pe_int (pa_cons pe_str (pa_cons pe_dnewK (pa_cons (pe_lst (pa_cons pe_int (pa_cons pe_int pa_nil))) (pa_cons (pe_lst (pa_cons pe_int (pa_cons (pv 3) pa_nil))) (pa_cons (pe_lst (pa_cons pe_int (pa_cons (pe_un un_neg pe_int) pa_nil))) (pa_cons (pe_lst (pa_cons pe_int (pa_cons pe_non pa_nil))) (pa_cons (pe_lst (pa_cons pe_bl pa_nil)) (pa_cons (pe_lst (pa_cons pe_str pa_nil)) (pa_cons pe_bl (pa_cons (pe_lst (pa_cons (pe_lst (pa_cons pe_int pa_nil)) pa_nil)) pa_nil))))))))))))))
      (pss_cons (ps_if (pt_val (pe_callB (cr_any rfl) (by rfl) T.n_any (by decide +kernel) (pa_cons (pe_lc (own := [("_law_odd", 23)]) (by rfl) nd (pi_list (pv 18)) (blkOk_by (own := [("_law_odd", 23)]) (N := LN) (sc := defScope s_law) (by decide +kernel)) (fun _ _ _ _ _ => (pg_name (i := 23) nd rfl (by first | exact Or.inl rfl | exact Or.inr rfl))) (fun _ _ _ _ _ => pts_nil) (fun _ _ _ _ _ => (pe_cal rfl c_is_closed (hr.mono (by first | decide | (simp only [Nat.add_eq]; omega))) passF (pa_cons (pv 7) (pa_cons (pv 6) (pa_cons (pv 23) pa_nil)))))) pa_nil))) (pss_one (ps_ret pe_bl)) pss_nil)
      hE)), fun D H pl rl many sts bad R x0 x1 x2 x4 x5 x8 x9 x10 x11 x12 x13 x14 x15 x16 x17 x18 x19 x20 x21 x22 x23 hp hok hrl hN hT q0 => ?_⟩
  have q : ∀ (H' : Hp) (v18 : Option V), Same H H' → tE D [x0, x1, x2, some (iV many), x4, x5, some (.ref rl), some (.ref pl), x8, x9, x10, x11, x12, x13, x14, x15, x16, x17, v18, x19, x20, x21, x22, x23] H' := fun H' v18 s' => rE D H' pl many sts bad x0 x1 x2 (some (iV many)) x4 x5 (some (.ref rl)) x8 x9 x10 x11 x12 x13 x14 x15 x16 x17 v18 x19 x20 x21 x22 x23 (PlayAt.same s' hp) hok (LamX.Tabs.ext hT s') fun H2 v e2 hT2 => q0 H2 v18 v (LamX.ExtN.trans (ext_same s') e2) hT2
  refine fun pd hpd => ?_
  have spd : Same H (L2.upd H pd (.dK [])) := Same.new hpd
  have epd : (L2.upd H pd (.dK [])) pd = some (.dK []) := upd_same
  generalize L2.upd H pd (.dK []) = J0 at spd epd
  refine ⟨(by decide : 2 ≤ sizeLine), fun l1 hl1 => ?_⟩
  have sl1 : Same J0 (L2.upd J0 l1 (.lst [.int 0, .int 0])) := Same.new hl1
  have el1 : (L2.upd J0 l1 (.lst [.int 0, .int 0])) l1 = some (.lst [.int 0, .int 0]) := upd_same
  generalize L2.upd J0 l1 (.lst [.int 0, .int 0]) = J1 at sl1 el1
  refine ⟨_, rfl, (by decide : 2 ≤ sizeLine), fun l2 hl2 => ?_⟩
  have sl2 : Same J1 (L2.upd J1 l2 (.lst [.int 0, iV many])) := Same.new hl2
  have el2 : (L2.upd J1 l2 (.lst [.int 0, iV many])) l2 = some (.lst [.int 0, iV many]) := upd_same
  generalize L2.upd J1 l2 (.lst [.int 0, iV many]) = J2 at sl2 el2
  refine ⟨_, rfl, (by decide : 2 ≤ sizeLine), fun l3 hl3 => ?_⟩
  rw [show (fun i : Int => V.int (-i)) 1 = V.int (-1) from rfl]
  have sl3 : Same J2 (L2.upd J2 l3 (.lst [.int 0, .int (-1)])) := Same.new hl3
  have el3 : (L2.upd J2 l3 (.lst [.int 0, .int (-1)])) l3 = some (.lst [.int 0, .int (-1)]) := upd_same
  generalize L2.upd J2 l3 (.lst [.int 0, .int (-1)]) = J3 at sl3 el3
  refine ⟨(by decide : 2 ≤ sizeLine), fun l4 hl4 => ?_⟩
  have sl4 : Same J3 (L2.upd J3 l4 (.lst [.int 0, .non])) := Same.new hl4
  have el4 : (L2.upd J3 l4 (.lst [.int 0, .non])) l4 = some (.lst [.int 0, .non]) := upd_same
  generalize L2.upd J3 l4 (.lst [.int 0, .non]) = J4 at sl4 el4
  refine ⟨(by decide : 1 ≤ sizeLine), fun l5 hl5 => ?_⟩
  have sl5 : Same J4 (L2.upd J4 l5 (.lst [.bl false])) := Same.new hl5
  have el5 : (L2.upd J4 l5 (.lst [.bl false])) l5 = some (.lst [.bl false]) := upd_same
  generalize L2.upd J4 l5 (.lst [.bl false]) = J5 at sl5 el5
  refine ⟨(by decide : 1 ≤ sizeLine), fun l6 hl6 => ?_⟩
  have sl6 : Same J5 (L2.upd J5 l6 (.lst [.str "0"])) := Same.new hl6
  have el6 : (L2.upd J5 l6 (.lst [.str "0"])) l6 = some (.lst [.str "0"]) := upd_same
  generalize L2.upd J5 l6 (.lst [.str "0"]) = J6 at sl6 el6
  refine ⟨(by decide : 1 ≤ sizeLine), fun l7 hl7 => ?_⟩
  have sl7 : Same J6 (L2.upd J6 l7 (.lst [.int 0])) := Same.new hl7
  have el7 : (L2.upd J6 l7 (.lst [.int 0])) l7 = some (.lst [.int 0]) := upd_same
  generalize L2.upd J6 l7 (.lst [.int 0]) = J7 at sl7 el7
  refine ⟨(by decide : 1 ≤ sizeLine), fun l8 hl8 => ?_⟩
  have sl8 : Same J7 (L2.upd J7 l8 (.lst [.ref l7])) := Same.new hl8
  have el8 : (L2.upd J7 l8 (.lst [.ref l7])) l8 = some (.lst [.ref l7]) := upd_same
  generalize L2.upd J7 l8 (.lst [.ref l7]) = J8 at sl8 el8
  refine ⟨(by decide : 12 ≤ sizeLine), fun ol hol => ?_⟩
  have sol : Same J8 (L2.upd J8 ol (.lst [.non, .int 5, .str "0", .ref pd, .ref l1, .ref l2, .ref l3, .ref l4, .ref l5, .ref l6, .bl true, .ref l8])) := Same.new hol
  have eol : (L2.upd J8 ol (.lst [.non, .int 5, .str "0", .ref pd, .ref l1, .ref l2, .ref l3, .ref l4, .ref l5, .ref l6, .bl true, .ref l8])) ol = some (.lst [.non, .int 5, .str "0", .ref pd, .ref l1, .ref l2, .ref l3, .ref l4, .ref l5, .ref l6, .bl true, .ref l8]) := upd_same
  generalize L2.upd J8 ol (.lst [.non, .int 5, .str "0", .ref pd, .ref l1, .ref l2, .ref l3, .ref l4, .ref l5, .ref l6, .bl true, .ref l8]) = JZ at sol eol
  have uol := sol
  have ul8 := Same.trans sl8 uol
  have ul7 := Same.trans sl7 ul8
  have ul6 := Same.trans sl6 ul7
  have ul5 := Same.trans sl5 ul6
  have ul4 := Same.trans sl4 ul5
  have ul3 := Same.trans sl3 ul4
  have ul2 := Same.trans sl2 ul3
  have ul1 := Same.trans sl1 ul2
  have upd := Same.trans spd ul1
  have uH := upd
  have hok1 := hok.pos
  have hth : ∀ x ∈ ([.non, .int 5, .str "0", .ref pd, .ref l1, .ref l2, .ref l3, .ref l4, .ref l5, .ref l6, .bl true, .ref l8] : List V), ThingIn K JZ many x none := fun x hx => by
    simp only [List.mem_cons, List.not_mem_nil, or_false] at hx
    rcases hx with rfl | rfl | rfl | rfl | rfl | rfl | rfl | rfl | rfl | rfl | rfl | rfl
    · exact .no .non (by decide) (by decide)
    · exact .no (.int 5) (by decide) (by decide)
    · exact .no (.str "0") (by decide) (by decide)
    · exact .no (.dic (.inl (ul1 _ _ epd))) (by decide) (by decide)
    · exact .dup (ns := [0, 0]) (SqL.of (ul2 _ _ el1)) (fun n hn => by simp at hn; omega) (by decide) (by decide)
    · exact .bad (SqL.of (ul3 _ _ el2)) (fun x hx => by simp only [List.mem_cons, List.not_mem_nil, or_false] at hx; rcases hx with rfl | rfl <;> exact ⟨_, .int _⟩) (show 2 ≤ 60 by decide) (standB_no (x := iV many) (by simp) (by show (decide ((0 : Int) ≤ many) && decide ((many : Int) < many)) = false; rw [decide_eq_false (show ¬ (many : Int) < many by omega), Bool.and_false]))
    · exact .bad (SqL.of (ul4 _ _ el3)) (fun x hx => by simp only [List.mem_cons, List.not_mem_nil, or_false] at hx; rcases hx with rfl | rfl <;> exact ⟨_, .int _⟩) (by decide) (standB_no (x := .int (-1)) (by simp) rfl)
    · exact .bad (SqL.of (ul5 _ _ el4)) (fun x hx => by simp only [List.mem_cons, List.not_mem_nil, or_false] at hx; rcases hx with rfl | rfl; exact ⟨_, .int _⟩; exact ⟨_, .non⟩) (by decide) (standB_no (x := .non) (by simp) rfl)
    · exact .bad (SqL.of (ul6 _ _ el5)) (fun x hx => by rw [List.mem_singleton.mp hx]; exact ⟨_, .bl _⟩) (by decide) (standB_no (x := .bl false) (by simp) rfl)
    · exact .bad (SqL.of (ul7 _ _ el6)) (fun x hx => by rw [List.mem_singleton.mp hx]; exact ⟨_, .str _⟩) (by decide) (standB_no (x := .str "0") (by simp) rfl)
    · exact .no (.bl true) (by decide) (by decide)
    · exact .bad (SqL.of (uol _ _ el8)) (fun x hx => by rw [List.mem_singleton.mp hx]; exact ⟨_, .lst (SqL.of (ul8 _ _ el7))⟩) (show 1 ≤ 60 by decide) (standB_no (x := .ref l7) (by simp) rfl)
  refine ⟨_, rfl, ol, rfl, ⟨_, SqL.of eol⟩, fun D2 hD2 => ?_⟩
  refine lc_fm (walk_list (xs := [.non, .int 5, .str "0", .ref pd, .ref l1, .ref l2, .ref l3, .ref l4, .ref l5, .ref l6, .bl true, .ref l8])) (([.non, .int 5, .str "0", .ref pd, .ref l1, .ref l2, .ref l3, .ref l4, .ref l5, .ref l6, .bl true, .ref l8] : List V).map fun _ => some (V.bl false)) rfl (show 12 ≤ sizeLine by decide) hD2 (fun H2 s2 => SqL.of (s2 _ _ eol)) (fun i o y H2 H3 ho s2 ⟨e, hy⟩ R' hR => ?_) fun H2 s2 hD3 => ?_
  · subst e
    rw [List.getElem?_map, hy] at ho
    cases ho
    have s02 := Same.trans uH s2
    refine ⟨rfl, _, rfl, _, rfl, _, rfl, pl, .ref rl, y, many, sts, bad, .inl R, none, rfl, ⟨PlayAt.same s02 hp, hok, .ok (.inl (SqL.leq (Same.leq s02) hrl)) hN⟩, fun _ _ => ThingIn.leq (Same.leq s2) (hth y (List.mem_of_getElem? hy)), fun H4 s4 => hR _ s4⟩
  · refine ⟨D2, ([.non, .int 5, .str "0", .ref pd, .ref l1, .ref l2, .ref l3, .ref l4, .ref l5, .ref l6, .bl true, .ref l8] : List V).map fun _ => false, rfl, SqL.of hD3, ?_⟩
    have s02 := Same.trans uH s2
    refine ⟨_, rfl, ?_⟩
    exact q H2 _ s02

end
end FF
namespace FF
open PySem PySem.Spec PyProof.Rows L2
theorem perm_of_nodup : ∀ {l m : List Nat}, l.Nodup → m.Nodup → (∀ x, x ∈ l ↔ x ∈ m) → l.Perm m
  | [], m, _, _, h => by
    cases m with
    | nil => exact .nil
    | cons a m => exact absurd ((h a).mpr List.mem_cons_self) (by simp)
  | a :: l, m, hl, hm, h => by
    have ha : a ∈ m := (h a).mp List.mem_cons_self
    rw [List.nodup_cons] at hl
    refine (List.Perm.cons a (perm_of_nodup hl.2 (hm.erase a) fun x => ?_)).trans (List.perm_cons_erase ha).symm
    rw [hm.mem_erase_iff]
    constructor
    · intro hx
      exact ⟨fun e => hl.1 (e ▸ hx), (h x).mp (List.mem_cons_of_mem _ hx)⟩
    · rintro ⟨h1, h2⟩
      exact (List.mem_cons.mp ((h x).mpr h2)).resolve_left h1
theorem reach_perm {G : Gr} (ok : GrOk G) : ((bfs G).map (·.1)).Perm (reachL G) := perm_of_nodup (bfs_inv ok).nd ((List.nodup_range).filter _) fun x => by
  rw [bfs_keys ok, mem_reachL ok]
theorem reach_sorted {G : Gr} (ok : GrOk G) {ys : List Int} (hp : ys.Perm ((bfs G).map fun x => (x.1 : Int))) (hs : ys.Pairwise (· ≤ ·)) : ys.map V.int = (reachL G).map iV := by
  have e : ys = (reachL G).map Int.ofNat := by
    refine asc_filter hs (hp.trans ?_)
    have := (reach_perm ok).map Int.ofNat
    rw [List.map_map] at this
    exact this
  rw [e, List.map_map]
  rfl
theorem closed_few {G : Gr} {bad : List Nat} (h : G.length ≤ 7) : (closedL G bad).length ≤ 128 := by
  unfold closedL
  refine Nat.le_trans (List.length_filter_le _ _) ?_
  rw [List.length_map, List.length_range]
  exact Nat.le_trans (Nat.pow_le_pow_right (by decide) h) (by decide)
theorem sub_few {G : Gr} {bad L : List Nat} (h : L ∈ closedL G bad) : L.length ≤ G.length ∧ ∀ s ∈ L, s < G.length := by
  obtain ⟨b, rfl⟩ := closed_sub h
  unfold sub
  refine ⟨Nat.le_trans (List.length_filter_le _ _) (by rw [List.length_range]; exact Nat.le_refl _), fun s hs => List.mem_range.mp (List.mem_filter.mp hs).1⟩
theorem eqv_nats : ∀ L : List Nat, PyData.eqvAll (L.map fun (n : Nat) => .int n) (L.map fun (n : Nat) => .int n) = true
  | [] => by simp [PyData.eqvAll]
  | n :: L => by
    simp only [List.map_cons, PyData.eqvAll, PyData.eqv, Bool.and_eq_true]
    exact ⟨by simp, eqv_nats L⟩
theorem any_nats {L : List Nat} {Ls : List (List Nat)} (h : L ∈ Ls) : ((Ls.map natD).any fun z => PyData.eqv z (natD L)) = true := by
  rw [List.any_eq_true]
  refine ⟨natD L, List.mem_map.mpr ⟨L, h, rfl⟩, ?_⟩
  simp only [natD, PyData.eqv]
  exact eqv_nats L
theorem natD_lay (L : List Nat) : (natD L).canLay0 = true ∧ (natD L).depth ≤ 1 := by
  have h : ∀ d ∈ L.map (fun (n : Nat) => PyData.int n), d.canLay0 = true ∧ d.depth ≤ 0 := fun d hd => by
    obtain ⟨n, _, rfl⟩ := List.mem_map.mp hd
    simp [PyData.canLay0, PyData.depth]
  refine ⟨by simp only [natD, PyData.canLay0]; exact canAll fun d hd => (h d hd).1, ?_⟩
  have := depthAll_le fun d hd => (h d hd).2
  simp only [natD, PyData.depth]
  omega
theorem natss_shaped (Ls : List (List Nat)) : SeqAt.shaped (.list (Ls.map natD)) = true := shaped_list (n := 1) (by decide) fun d hd => let ⟨L, _, e⟩ := List.mem_map.mp hd; e ▸ natD_lay L
theorem natss_nil (Ls : List (List Nat)) : PyData.eqv (.list (Ls.map natD)) (.list []) = Ls.isEmpty := by
  simp only [PyData.eqv]
  rw [eqvAll_nil]
  cases Ls <;> rfl
section
variable {w : World} {K : PySem.W.Frag} {mg : Str → Option Value} {base : Heap}
/-- a list of lists of stands -/
def ListsAt (K : PySem.W.Frag) (H : Hp) (cl : Addr) (Ls : List (List Nat)) : Prop := ∃ rs : List Addr, SqL K H cl (rs.map V.ref) ∧ Paired (fun r L => SqL K H r (L.map iV)) rs Ls
theorem ListsAt.leq {H H' : Hp} {cl : Addr} {Ls : List (List Nat)} (e : Leq H H') (h : ListsAt K H cl Ls) : ListsAt K H' cl Ls := let ⟨rs, h1, h2⟩ := h; ⟨rs, SqL.leq e h1, paired_map h2 fun _ _ q => SqL.leq e q⟩
theorem ListsAt.dp {H : Hp} {cl : Addr} {Ls : List (List Nat)} (h : ListsAt K H cl Ls) : Dp K H (.ref cl) (.list (Ls.map natD)) := by
  obtain ⟨rs, h1, h2⟩ := h
  refine .lst h1 ?_
  clear h1
  induction h2 with
  | nil => exact .nil
  | cons p _ ih => exact .cons (nat_dp p) ih
theorem lost_nil {G : Gr} {bad : List Nat} : (lost G bad).isEmpty = (brk G bad).isEmpty := by
  unfold lost
  cases brk G bad <;> rfl

theorem okDs_nat : ∀ L : List Nat, okDs (L.map fun (n : Nat) => .int n) = true
  | [] => by simp [okDs]
  | n :: L => by simp [okDs, okD, okDs_nat L]
theorem okD_nat {L : List Nat} (h : L.length ≤ 1000) : okD (natD L) = true := by
  simp only [natD, okD, Bool.and_eq_true, decide_eq_true_eq]
  exact ⟨by rw [List.length_map]; exact h, okDs_nat L⟩

/-- safe lists asked again, closed lists with bools, closed lists within the safe one -/
theorem cC2 {P c0 fa : Addr} (C : LawC w K mg base P c0) {A : Around} {outer : List Env} {s : Shared} {H0 : Hp} {E : XK} (hr : Room 18 (lawA fa c0 A s)) : ∃ t : TS, PSs (lawX w K mg base fa c0 A outer s H0 E) (lawBody.drop 16) t ∧
    ∀ (D : Ends) (H : Hp) (pl rl lv lo sf cl : Addr) (many : Nat) (sts : List StepD) (bad : List Nat) (R : List Str) (x0 x1 x2 x4 x5 x8 x11 x12 x15 x16 x17 x18 x19 x20 x21 x22 x23 : Option V), PlayAt K w H pl many sts bad → PlayOk many sts bad → many ≤ 7 → SqL K H rl (R.map V.str) → Names1 R → LamX.Tabs [(P, lq)] H →
      H lv = some (.dK (lvK (bfs (grOf many sts R)))) → SqL K H lo ((lost (grOf many sts R) bad).map iV) → SqL K H sf ((safe (grOf many sts R) bad).map iV) → ListsAt K H cl (closedL (grOf many sts R) bad) →
      (∀ (H' : Hp) (v18 v19 : Option V), LamX.ExtN H H' → LamX.Tabs [(P, lq)] H' → D.nx [x0, x1, x2, some (iV many), x4, x5, some (.ref rl), some (.ref pl), x8, some (.ref lv), some (.ref lo), x11, x12, some (.ref sf), some (.ref cl), x15, x16, x17, v18, v19, x20, x21, x22, x23] H') → t D [x0, x1, x2, some (iV many), x4, x5, some (.ref rl), some (.ref pl), x8, some (.ref lv), some (.ref lo), x11, x12, some (.ref sf), some (.ref cl), x15, x16, x17, x18, x19, x20, x21, x22, x23] H := by
  obtain ⟨tD, hD, rD⟩ := cD C hr
  obtain ⟨T, Pl, Br, Bx, exm, Dm, TB, c__law_start, c__law_draw, c__law_steps, c__law_bad, c__law_rules, c__law_table, c__law_levels, c_break_run, c__law_same, c_keeps, c__law_walk, c__law_from, c_still_safe, c__law_is_closed, c_is_closed, c__law_mixed, c_is_integer, c_checked_steps, c_checked_stands⟩ := C
  have nd := sc_law.nd
  have hu := hu_of hr
  have hu65 := hu65_of hr
  refine ⟨_, (pss_cons (ps_expr (pe_bm PySem.F.plainAttrs_list PySem.F.slot_list_append PySem.F.type_list_append mt_append (pe_cal rfl c_still_safe (hr.mono (by first | decide | (simp only [Nat.add_eq]; omega))) passF (pa_cons (pv 7) (pa_cons (pv 6) pa_nil))) (pa_cons (pv 3) pa_nil)))
      (pss_cons (ps_if (pt_not (pt_val (pe_cal rfl c__law_same (hr.mono (by first | decide | (simp only [Nat.add_eq]; omega))) pass0 (pa_cons (pe_cal rfl c_still_safe (hr.mono (by first | decide | (simp only [Nat.add_eq]; omega))) passF (pa_cons (pv 7) (pa_cons (pe_callTy call_tuple_of (by rfl) T.n_tuple (by decide +kernel) (pa_cons (pv 6) pa_nil)) pa_nil))) (pa_cons (pv 13) pa_nil))))) (pss_one (ps_ret pe_bl)) pss_nil)
      (pss_cons (ps_if (pt_val (pe_callB (cr_any rfl) (by rfl) T.n_any (by decide +kernel) (pa_cons (pe_lc (own := [("_law_some", 16)]) (by rfl) nd (pi_list (pv 14)) (blkOk_by (own := [("_law_some", 16)]) (N := LN) (sc := defScope s_law) (by decide +kernel)) (fun _ _ _ _ _ => (pg_name (i := 16) nd rfl (by first | exact Or.inl rfl | exact Or.inr rfl))) (fun _ _ _ _ _ => pts_nil) (fun _ _ _ _ _ => (pe_cal rfl c_is_closed (hr.mono (by first | decide | (simp only [Nat.add_eq]; omega))) passF (pa_cons (pv 7) (pa_cons (pv 6) (pa_cons (pe_lc (own := [("_law_s", 21)]) (by rfl) nd (show PI _ _ _ (iList K _) from pi_list (pv 16)) (by refine blkOk_by (own := [("_law_s", 21)]) (N := LN) ?_; kernel_rfl) (fun _ _ _ _ _ => (pg_name (i := 21) nd rfl (by first | exact Or.inl rfl | exact Or.inr rfl))) (fun _ _ _ _ _ => pts_nil) (fun _ _ _ _ _ => (pe_ifExp (pt_cmpR op_lt (pv 21) pe_int (nomark _)) (pe_cmpR op_eq (pv 21) pe_int (nomark _)) (pv 21)))) pa_nil)))))) pa_nil))) (pss_one (ps_ret pe_bl)) pss_nil)
      (pss_cons (ps_if (pt_not (pt_val (pe_callB (cr_all rfl) (by rfl) T.n_all (by decide +kernel) (pa_cons (pe_lc (own := [("_law_some", 16)]) (by rfl) nd (pi_list (pv 14)) (blkOk_by (own := [("_law_some", 16)]) (N := LN) (sc := defScope s_law) (by decide +kernel)) (fun _ _ _ _ _ => (pg_name (i := 16) nd rfl (by first | exact Or.inl rfl | exact Or.inr rfl))) (fun _ _ _ _ _ => pts_nil) (fun _ _ _ _ _ => (pe_callB (show CallR _ _ (rAll K) from cr_all rfl) (by rfl) T.n_all (by decide +kernel) (pa_cons (pe_lc (own := [("_law_stand", 20)]) (by rfl) nd (show PI _ _ _ (iList K _) from pi_list (pv 16)) (by refine blkOk_by (own := [("_law_stand", 20)]) (N := LN) ?_; kernel_rfl) (fun _ _ _ _ _ => (pg_name (i := 20) nd rfl (by first | exact Or.inl rfl | exact Or.inr rfl))) (fun _ _ _ _ _ => pts_nil) (fun _ _ _ _ _ => (pe_cmpR (show OpR _ _ (rIn K false) from op_in_seq) (pv 20) (pv 13) (by with_unfolding_all rfl)))) pa_nil)))) pa_nil)))) (pss_one (ps_ret pe_bl)) pss_nil)
      hD)))), fun D H pl rl lv lo sf cl many sts bad R x0 x1 x2 x4 x5 x8 x11 x12 x15 x16 x17 x18 x19 x20 x21 x22 x23 hp hok h7 hrl hN hT hlv hlo hsf hcl q0 => ?_⟩
  have q : ∀ H' : Hp, Same H H' → tD D [x0, x1, x2, some (iV many), x4, x5, some (.ref rl), some (.ref pl), x8, some (.ref lv), some (.ref lo), x11, x12, some (.ref sf), some (.ref cl), x15, x16, x17, x18, x19, x20, x21, x22, x23] H' := fun H' s' => rD D H' pl rl many sts bad R x0 x1 x2 x4 x5 x8 (some (.ref lv)) (some (.ref lo)) x11 x12 (some (.ref sf)) (some (.ref cl)) x15 x16 x17 x18 x19 x20 x21 x22 x23 (PlayAt.same s' hp) hok (SqL.leq (Same.leq s') hrl) hN (LamX.Tabs.ext hT s') fun H2 v18 v19 e2 hT2 => q0 H2 v18 v19 (LamX.ExtN.trans (ext_same s') e2) hT2
  have hG : GrOk (grOf many sts R) := grOf_ok hok.ok hok.pos
  have hGl : (grOf many sts R).length = many := grOf_len
  have hsl : (safe (grOf many sts R) bad).length ≤ 7 := by
    unfold safe
    refine Nat.le_trans (List.length_filter_le _ _) ?_
    rw [List.length_range, hGl]
    exact h7
  have ask : ∀ {H' : Hp} {v : V}, Same H H' → RulesIn K H' v (.inl R) → AskAt K w H' pl v many sts bad (.inl R) := fun s' hv => ⟨PlayAt.same s' hp, hok, hv⟩
  have hrI : ∀ {H' : Hp}, Same H H' → RulesIn K H' (.ref rl) (.inl R) := fun s' => .ok (.inl (SqL.leq (Same.leq s') hrl)) hN
  refine ⟨_, rfl, _, rfl, pl, .ref rl, many, sts, bad, .inl R, rfl, ask (Same.refl _) (hrI (Same.refl _)), fun p1 H1 s1 hp1n hp1 => ⟨.inl ⟨rfl, _, SqL.of hp1⟩, _, rfl, p1, _, iV many, rfl, rfl, hp1, by rw [List.length_map]; exact small1000 (by omega), ?_⟩⟩
  have s2 : Same H (L2.upd H1 p1 (.lst ((safe (grOf many sts R) bad).map iV ++ [iV many]))) := Same.over s1 hp1n
  generalize L2.upd H1 p1 (.lst ((safe (grOf many sts R) bad).map iV ++ [iV many])) = H2 at s2
  refine ⟨_, rfl, _, rfl, rl, _, rfl, .inl ⟨SqL.leq (Same.leq s2) hrl, fun tp htp => ?_⟩⟩
  have s23 : Same H2 (L2.upd H2 tp (.tup (R.map V.str))) := Same.new htp
  have etp : (L2.upd H2 tp (.tup (R.map V.str))) tp = some (.tup (R.map V.str)) := upd_same
  generalize L2.upd H2 tp (.tup (R.map V.str)) = H3 at s23 etp
  have s3 := Same.trans s2 s23
  refine ⟨pl, .ref tp, many, sts, bad, .inl R, rfl, ask s3 (.ok (.inr (SqT.of etp)) hN), fun p2 H4 s4 hp2n hp2 => ?_⟩
  have s04 := Same.trans s3 s4
  refine ⟨_, rfl, .ref p2, .ref sf, natD (safe (grOf many sts R) bad), rfl, nat_dp (SqL.of hp2), nat_dp (SqL.leq (Same.leq s04) hsf), okD_nat (by omega), Nat.lt_of_le_of_lt (natD_lay _).2 (by decide), fun H5 s5 => ⟨_, rfl, ?_⟩⟩
  have s05 := Same.trans s04 s5
  clear s1 s2 s23 s3 s4 s04 s5 hp1 hp2 etp hp1n hp2n
  obtain ⟨rs, hrs, hLs⟩ := hcl
  have lrs : rs.length = (closedL (grOf many sts R) bad).length := Paired.length hLs
  have hcf := closed_few (bad := bad) (show (grOf many sts R).length ≤ 7 by omega)
  refine ⟨_, rfl, cl, rfl, ⟨_, SqL.leq (Same.leq s05) hrs⟩, fun D1 hD1 => ?_⟩
  refine lc_fm (walk_list (xs := rs.map V.ref)) (rs.map fun _ => some (V.bl false)) (by simp) (by rw [List.length_map]; exact Nat.le_of_lt (small1000 (by omega))) hD1 (fun H6 s6 => SqL.leq (Same.leq (Same.trans s05 s6)) hrs) (fun i o y H6 H7 ho s6 ⟨e, hy⟩ R' hR => ?_) fun H6 s6 hD6 => ?_
  · subst e
    obtain ⟨r, hr0, rfl⟩ := map_get hy
    rw [List.getElem?_map, hr0] at ho
    cases ho
    obtain ⟨L, hL, hrL⟩ := paired_get hLs hr0
    have hLm := List.mem_of_getElem? hL
    obtain ⟨hLf, hLt⟩ := sub_few hLm
    have s06 := Same.trans s05 s6
    refine ⟨rfl, _, rfl, _, rfl, _, rfl, r, rfl, ⟨_, SqL.leq (Same.leq s06) hrL⟩, fun D2 hD2 => ?_⟩
    refine lc_fm (walk_list (xs := L.map iV)) (L.map fun (s : Nat) => some (if (s : Int) < 2 then V.bl (decide (iV s = V.int 1)) else iV s)) (by simp) (by rw [List.length_map]; exact Nat.le_of_lt (small1000 (by omega))) hD2 (fun H8 s8 => SqL.leq (Same.leq (Same.trans s06 s8)) hrL) (fun j o y H8 H9 ho s8 ⟨e, hy⟩ R2 hR2 => ?_) fun H8 s8 hD8 => ?_
    · subst e
      obtain ⟨s0, hs0, rfl⟩ := map_get hy
      rw [List.getElem?_map, hs0] at ho
      cases ho
      refine ⟨rfl, _, rfl, _, _, rfl, rfl, _, rfl, ?_⟩
      dsimp only at hR2
      by_cases h2 : (s0 : Int) < 2
      · rw [decide_eq_true h2]
        rw [if_pos h2] at hR2
        exact ⟨_, rfl, rfl, hR2 _ (Same.refl _)⟩
      · rw [decide_eq_false h2]
        rw [if_neg h2] at hR2
        exact ⟨_, rfl, hR2 _ (Same.refl _)⟩
    · rw [fm_some] at hD8
      have s08 := Same.trans s06 s8
      refine ⟨pl, .ref rl, .ref D2, many, sts, bad, .inl R, none, rfl, ask s08 (hrI s08), fun _ _ => .bad (SqL.of hD8) (fun x hx => ?_) (by rw [List.length_map]; omega) (standB_no (x := .bl false) (List.mem_map.mpr ⟨0, closed_zero hLm, ?_⟩) rfl), fun H10 s10 => hR _ (Same.trans s8 s10)⟩
      · obtain ⟨s0, _, rfl⟩ := List.mem_map.mp hx
        split
        · exact ⟨_, .bl _⟩
        · exact ⟨_, .int _⟩
      · rfl
  · rw [fm_some] at hD6
    refine ⟨D1, rs.map fun _ => false, rfl, SqL.of (by rw [hD6, List.map_map]; rfl), _, rfl, ?_⟩
    rw [show (rs.map fun _ => false).any id = false by simp]
    have s06 := Same.trans s05 s6
    refine ⟨_, rfl, cl, rfl, ⟨_, SqL.leq (Same.leq s06) hrs⟩, fun D3 hD3 => ?_⟩
    refine lc_fm (walk_list (xs := rs.map V.ref)) (rs.map fun _ => some (V.bl true)) (by simp) (by rw [List.length_map]; exact Nat.le_of_lt (small1000 (by omega))) hD3 (fun H7 s7 => SqL.leq (Same.leq (Same.trans s06 s7)) hrs) (fun i o y H7 H8 ho s7 ⟨e, hy⟩ R' hR => ?_) fun H7 s7 hD7 => ?_
    · subst e
      obtain ⟨r, hr0, rfl⟩ := map_get hy
      rw [List.getElem?_map, hr0] at ho
      cases ho
      obtain ⟨L, hL, hrL⟩ := paired_get hLs hr0
      have hLm := List.mem_of_getElem? hL
      obtain ⟨hLf, hLt⟩ := sub_few hLm
      have s07 := Same.trans s06 s7
      refine ⟨rfl, _, rfl, r, rfl, ⟨_, SqL.leq (Same.leq s07) hrL⟩, fun D4 hD4 => ?_⟩
      refine lc_fm (walk_list (xs := L.map iV)) (L.map fun _ => some (V.bl true)) (by simp) (by rw [List.length_map]; exact Nat.le_of_lt (small1000 (by omega))) hD4 (fun H9 s9 => SqL.leq (Same.leq (Same.trans s07 s9)) hrL) (fun j o y H9 H10 ho s9 ⟨e, hy⟩ R2 hR2 => ?_) fun H9 s9 hD9 => ?_
      · subst e
        obtain ⟨s0, hs0, rfl⟩ := map_get hy
        rw [List.getElem?_map, hs0] at ho
        cases ho
        refine ⟨rfl, _, rfl, _, rfl, sf, _, rfl, .inl (SqL.leq (Same.leq (Same.trans s07 s9)) hsf), rfl, flat_nats _, ?_⟩
        rw [show (if false = true then !inV (iV s0) ((safe (grOf many sts R) bad).map iV) else inV (iV s0) ((safe (grOf many sts R) bad).map iV)) = true from inV_nat.trans (decide_eq_true (closed_in_safe hG hLm (List.mem_of_getElem? hs0)))]
        exact hR2 _ (Same.refl _)
      · rw [fm_some] at hD9
        refine ⟨D4, L.map fun _ => true, rfl, SqL.of (by rw [hD9, List.map_map]; rfl), ?_⟩
        rw [show (L.map fun _ => true).all id = true by simp]
        exact hR _ s9
    · rw [fm_some] at hD7
      refine ⟨D3, rs.map fun _ => true, rfl, SqL.of (by rw [hD7, List.map_map]; rfl), _, rfl, ?_⟩
      rw [show (rs.map fun _ => true).all id = true by simp]
      exact q _ (Same.trans s06 s7)

end
end FF
namespace FF
open PySem PySem.Spec PyProof.Rows L2
section
variable {w : World} {K : PySem.W.Frag} {mg : Str → Option Value} {base : Heap}

/-- closed lists, what is reached, what is safe -/
theorem cC1 {P c0 fa : Addr} (C : LawC w K mg base P c0) {A : Around} {outer : List Env} {s : Shared} {H0 : Hp} {E : XK} (hr : Room 18 (lawA fa c0 A s)) : ∃ t : TS, PSs (lawX w K mg base fa c0 A outer s H0 E) (lawBody.drop 13) t ∧
    ∀ (D : Ends) (H : Hp) (pl rl lv lo sf cl : Addr) (many : Nat) (sts : List StepD) (bad : List Nat) (R : List Str) (x0 x1 x2 x4 x5 x8 x11 x12 x15 x16 x17 x18 x19 x20 x21 x22 x23 : Option V), PlayAt K w H pl many sts bad → PlayOk many sts bad → many ≤ 7 → SqL K H rl (R.map V.str) → Names1 R → LamX.Tabs [(P, lq)] H →
      H lv = some (.dK (lvK (bfs (grOf many sts R)))) → SqL K H lo ((lost (grOf many sts R) bad).map iV) → SqL K H sf ((safe (grOf many sts R) bad).map iV) → ListsAt K H cl (closedL (grOf many sts R) bad) →
      (∀ (H' : Hp) (v18 v19 : Option V), LamX.ExtN H H' → LamX.Tabs [(P, lq)] H' → D.nx [x0, x1, x2, some (iV many), x4, x5, some (.ref rl), some (.ref pl), x8, some (.ref lv), some (.ref lo), x11, x12, some (.ref sf), some (.ref cl), x15, x16, x17, v18, v19, x20, x21, x22, x23] H') → t D [x0, x1, x2, some (iV many), x4, x5, some (.ref rl), some (.ref pl), x8, some (.ref lv), some (.ref lo), x11, x12, some (.ref sf), some (.ref cl), x15, x16, x17, x18, x19, x20, x21, x22, x23] H := by
  obtain ⟨tD, hD, rD⟩ := cC2 C hr
  obtain ⟨T, Pl, Br, Bx, exm, Dm, TB, c__law_start, c__law_draw, c__law_steps, c__law_bad, c__law_rules, c__law_table, c__law_levels, c_break_run, c__law_same, c_keeps, c__law_walk, c__law_from, c_still_safe, c__law_is_closed, c_is_closed, c__law_mixed, c_is_integer, c_checked_steps, c_checked_stands⟩ := C
  have nd := sc_law.nd
  have hu := hu_of hr
  have hu65 := hu65_of hr
  refine ⟨_, (pss_cons (ps_if (pt_cmpR op_ne (pe_cmpR (op_eqD hr.units) (pv 14) (pe_lst pa_nil) (nomark _)) (pe_cmpR (op_neD hr.units) (pv 10) (pe_lst pa_nil) (nomark _)) (nomark _)) (pss_one (ps_ret pe_bl)) pss_nil)
      (pss_cons (ps_if (PW.pt (pw_and (pt_cmpR (op_neD hr.units) (pv 14) (pe_lst pa_nil) (nomark _)) (pw_and1 (pt_not (pt_val (pe_callB (cr_all rfl) (by rfl) T.n_all (by decide +kernel) (pa_cons (pe_lc (own := [("_law_some", 16)]) (by rfl) nd (pi_list (pv 14)) (blkOk_by (own := [("_law_some", 16)]) (N := LN) (sc := defScope s_law) (by decide +kernel)) (fun _ _ _ _ _ => (pg_name (i := 16) nd rfl (by first | exact Or.inl rfl | exact Or.inr rfl))) (fun _ _ _ _ _ => pts_nil) (fun _ _ _ _ _ => (pe_cmpR (show OpR _ _ (rEqD K) from op_eqD hr.units) (pe_lc (own := [("_law_s", 21)]) (by rfl) nd (show PI _ _ _ (iList K _) from pi_list (pe_callB (call_sortedDI rfl) (by rfl) T.n_sorted (by decide +kernel) (pa_cons (pv 9) pa_nil))) (by refine blkOk_by (own := [("_law_s", 21)]) (N := LN) ?_; kernel_rfl) (fun _ _ _ _ _ => (pg_name (i := 21) nd rfl (by first | exact Or.inl rfl | exact Or.inr rfl))) (fun _ _ _ _ _ => (pts_one (pt_cmpR (show OpR _ _ (rIn K true) from op_notIn_seq) (pv 21) (pv 16) (by with_unfolding_all rfl)))) (fun _ _ _ _ _ => (pv 21))) (pe_lst pa_nil) (nomark _)))) pa_nil))))))) (pss_one (ps_ret pe_bl)) pss_nil)
      (pss_cons (ps_if (PW.pt (pw_and (pt_cmpR (op_neD hr.units) (pv 14) (pe_lst pa_nil) (nomark _)) (pw_and1 (PW.pt (pw_or (pt_cmpR (op_notInD hu65) (pe_callB (call_sortedDI rfl) (by rfl) T.n_sorted (by decide +kernel) (pa_cons (pv 9) pa_nil)) (pv 14) (by with_unfolding_all rfl)) (pw_or1 (pt_cmpR (op_notInD hu65) (pv 13) (pv 14) (by with_unfolding_all rfl)))))))) (pss_one (ps_ret pe_bl)) pss_nil)
      hD))), fun D H pl rl lv lo sf cl many sts bad R x0 x1 x2 x4 x5 x8 x11 x12 x15 x16 x17 x18 x19 x20 x21 x22 x23 hp hok h7 hrl hN hT hlv hlo hsf hcl q0 => ?_⟩
  have q : ∀ H' : Hp, Same H H' → tD D [x0, x1, x2, some (iV many), x4, x5, some (.ref rl), some (.ref pl), x8, some (.ref lv), some (.ref lo), x11, x12, some (.ref sf), some (.ref cl), x15, x16, x17, x18, x19, x20, x21, x22, x23] H' := fun H' s' => rD D H' pl rl lv lo sf cl many sts bad R x0 x1 x2 x4 x5 x8 x11 x12 x15 x16 x17 x18 x19 x20 x21 x22 x23 (PlayAt.same s' hp) hok h7 (SqL.leq (Same.leq s') hrl) hN (LamX.Tabs.ext hT s') (s' _ _ hlv) (SqL.leq (Same.leq s') hlo) (SqL.leq (Same.leq s') hsf) (ListsAt.leq (Same.leq s') hcl) fun H2 v18 v19 e2 hT2 => q0 H2 v18 v19 (LamX.ExtN.trans (ext_same s') e2) hT2
  have hG : GrOk (grOf many sts R) := grOf_ok hok.ok hok.pos
  have hGl : (grOf many sts R).length = many := grOf_len
  have hsl : (safe (grOf many sts R) bad).length ≤ 7 := by
    unfold safe
    refine Nat.le_trans (List.length_filter_le _ _) ?_
    rw [List.length_range, hGl]
    exact h7
  have ask : ∀ {H' : Hp} {v : V}, Same H H' → RulesIn K H' v (.inl R) → AskAt K w H' pl v many sts bad (.inl R) := fun s' hv => ⟨PlayAt.same s' hp, hok, hv⟩
  have hrI : ∀ {H' : Hp}, Same H H' → RulesIn K H' (.ref rl) (.inl R) := fun s' => .ok (.inl (SqL.leq (Same.leq s') hrl)) hN
  have hcd : ∀ {H' : Hp}, Same H H' → Dp K H' (.ref cl) (.list ((closedL (grOf many sts R) bad).map natD)) := fun s' => (ListsAt.leq (Same.leq s') hcl).dp
  have hld : ∀ {H' : Hp}, Same H H' → Dp K H' (.ref lo) (natD (lost (grOf many sts R) bad)) := fun s' => nat_dp (SqL.leq (Same.leq s') hlo)
  have hce : (closedL (grOf many sts R) bad).isEmpty = !(lost (grOf many sts R) bad).isEmpty := by
    rw [lost_nil]
    have h := closed_nil (bad := bad) hG
    cases e1 : closedL (grOf many sts R) bad <;> cases e2 : brk (grOf many sts R) bad <;> rw [e1, e2] at h <;> simp at h ⊢
  have kvk : (lvK (bfs (grOf many sts R))).map (·.1) = ((bfs (grOf many sts R)).map fun x => (x.1 : Int)).map Sum.inl := by
    unfold lvK
    rw [List.map_map, List.map_map]
    rfl
  have hbl : ((bfs (grOf many sts R)).map fun x => (x.1 : Int)).length < 64 := by
    have := (bfs_inv hG).len
    rw [List.length_map]
    omega
  refine ⟨_, rfl, (by decide : 0 ≤ sizeLine), fun p1 hp1 => ⟨.list ((closedL (grOf many sts R) bad).map natD), .list [], hcd (Same.new hp1), .lst (SqL.of upd_same) .nil, natss_shaped _, shaped_nil, ?_⟩⟩
  have s1 : Same H (L2.upd H p1 (.lst [])) := Same.new hp1
  generalize L2.upd H p1 (.lst []) = H1 at s1
  refine ⟨_, rfl, (by decide : 0 ≤ sizeLine), fun p2 hp2 => ⟨natD (lost (grOf many sts R) bad), .list [], hld (Same.then s1 hp2), .lst (SqL.of upd_same) .nil, nat_shaped _, shaped_nil, rfl, _, rfl, ?_⟩⟩
  have s2 : Same H (L2.upd H1 p2 (.lst [])) := Same.then s1 hp2
  generalize L2.upd H1 p2 (.lst []) = H2 at s2
  rw [natss_nil, nat_nil, hce, decide_eq_true rfl]
  refine ⟨_, rfl, (by decide : 0 ≤ sizeLine), fun p3 hp3 => ⟨.list ((closedL (grOf many sts R) bad).map natD), .list [], hcd (Same.then s2 hp3), .lst (SqL.of upd_same) .nil, natss_shaped _, shaped_nil, _, rfl, ?_⟩⟩
  have s3 : Same H (L2.upd H2 p3 (.lst [])) := Same.then s2 hp3
  generalize L2.upd H2 p3 (.lst []) = H3 at s3
  rw [natss_nil]
  cases hE : (closedL (grOf many sts R) bad).isEmpty with
  | true =>
    refine ⟨_, rfl, (by decide : 0 ≤ sizeLine), fun p4 hp4 => ⟨.list ((closedL (grOf many sts R) bad).map natD), .list [], hcd (Same.then s3 hp4), .lst (SqL.of upd_same) .nil, natss_shaped _, shaped_nil, _, rfl, ?_⟩⟩
    rw [natss_nil, hE]
    exact q _ (Same.then s3 hp4)
  | false =>
    have hne : closedL (grOf many sts R) bad ≠ [] := fun e => by rw [e] at hE; cases hE
    obtain ⟨rs, hrs, hLs⟩ := id hcl
    have lrs : rs.length = (closedL (grOf many sts R) bad).length := Paired.length hLs
    have hcf := closed_few (bad := bad) (show (grOf many sts R).length ≤ 7 by omega)
    refine ⟨_, rfl, cl, rfl, ⟨_, SqL.leq (Same.leq s3) hrs⟩, fun D1 hD1 => ?_⟩
    refine lc_fm (walk_list (xs := rs.map V.ref)) (rs.map fun _ => some (V.bl true)) (by simp) (by rw [List.length_map]; exact Nat.le_of_lt (small1000 (by omega))) hD1 (fun H6 s6 => SqL.leq (Same.leq (Same.trans s3 s6)) hrs) (fun i o y H6 H7 ho s6 ⟨e, hy⟩ R' hR => ?_) fun H6 s6 hD6 => ?_
    · subst e
      obtain ⟨r, hr0, rfl⟩ := map_get hy
      rw [List.getElem?_map, hr0] at ho
      cases ho
      obtain ⟨L, hL, hrL⟩ := paired_get hLs hr0
      have hLm := List.mem_of_getElem? hL
      have s06 := Same.trans s3 s6
      refine ⟨rfl, _, rfl, lv, _, _, rfl, .inl (s06 _ _ hlv), kvk, hbl, fun ys p5 hperm hsort hp5 => ?_⟩
      rw [reach_sorted hG hperm hsort]
      have s67 : Same H7 (L2.upd H7 p5 (.lst ((reachL (grOf many sts R)).map iV))) := Same.new hp5
      have e5 : (L2.upd H7 p5 (.lst ((reachL (grOf many sts R)).map iV))) p5 = some (.lst ((reachL (grOf many sts R)).map iV)) := upd_same
      generalize L2.upd H7 p5 (.lst ((reachL (grOf many sts R)).map iV)) = H8 at s67 e5
      have s08 := Same.trans s06 s67
      have hrf : (reachL (grOf many sts R)).length ≤ 7 := by
        unfold reachL
        refine Nat.le_trans (List.length_filter_le _ _) ?_
        rw [List.length_range]
        omega
      refine ⟨p5, rfl, ⟨_, SqL.of e5⟩, fun D2 hD2 => ?_⟩
      refine lc_fm (walk_list (xs := (reachL (grOf many sts R)).map iV)) ((reachL (grOf many sts R)).map fun _ => none) (by simp) (by rw [List.length_map]; exact Nat.le_of_lt (small1000 (by omega))) hD2 (fun H9 s9 => SqL.of (s9 _ _ e5)) (fun j o y H9 H10 ho s9 ⟨e, hy⟩ R2 hR2 => ?_) fun H9 s9 hD9 => ?_
      · subst e
        obtain ⟨s0, hs0, rfl⟩ := map_get hy
        rw [List.getElem?_map, hs0] at ho
        cases ho
        have hsL : s0 ∈ L := closed_has hG hLm ((bfs_keys hG s0).mpr ((mem_reachL hG).mp (List.mem_of_getElem? hs0)))
        refine ⟨rfl, _, rfl, _, rfl, r, _, rfl, .inl (SqL.leq (Same.leq (Same.trans s08 s9)) hrL), rfl, flat_nats _, _, rfl, ?_⟩
        rw [show (if true = true then !inV (iV s0) (L.map iV) else inV (iV s0) (L.map iV)) = false by rw [inV_nat, decide_eq_true hsL]; rfl]
        exact hR2 _ (Same.refl _)
      · rw [show ((reachL (grOf many sts R)).map fun _ => (none : Option V)).filterMap id = [] by simp] at hD9
        refine ⟨(by decide : 0 ≤ sizeLine), fun p6 hp6 => ⟨.list [], .list [], .lst (SqL.of (Same.new hp6 _ _ hD9)) .nil, .lst (SqL.of upd_same) .nil, shaped_nil, shaped_nil, ?_⟩⟩
        rw [show PyData.eqv (.list []) (.list []) = true by simp [PyData.eqv, PyData.eqvAll]]
        exact hR _ (Same.trans s67 (Same.then s9 hp6))
    · rw [fm_some] at hD6
      have s06 := Same.trans s3 s6
      refine ⟨D1, rs.map fun _ => true, rfl, SqL.of (by rw [hD6, List.map_map]; rfl), _, rfl, ?_⟩
      rw [show (rs.map fun _ => true).all id = true by simp]
      refine ⟨_, rfl, (by decide : 0 ≤ sizeLine), fun p4 hp4 => ⟨.list ((closedL (grOf many sts R) bad).map natD), .list [], hcd (Same.then s06 hp4), .lst (SqL.of upd_same) .nil, natss_shaped _, shaped_nil, _, rfl, ?_⟩⟩
      rw [natss_nil, hE]
      have s07 : Same H (L2.upd H6 p4 (.lst [])) := Same.then s06 hp4
      generalize L2.upd H6 p4 (.lst []) = H7 at s07
      refine ⟨_, rfl, lv, _, _, rfl, .inl (s07 _ _ hlv), kvk, hbl, fun ys p5 hperm hsort hp5 => ?_⟩
      rw [reach_sorted hG hperm hsort]
      have s08 : Same H (L2.upd H7 p5 (.lst ((reachL (grOf many sts R)).map iV))) := Same.then s07 hp5
      have e5 : (L2.upd H7 p5 (.lst ((reachL (grOf many sts R)).map iV))) p5 = some (.lst ((reachL (grOf many sts R)).map iV)) := upd_same
      generalize L2.upd H7 p5 (.lst ((reachL (grOf many sts R)).map iV)) = H8 at s08 e5
      refine ⟨_, rfl, natD (reachL (grOf many sts R)), (closedL (grOf many sts R) bad).map natD, nat_dp (SqL.of e5), hcd s08, nat_shaped _, natss_shaped _, _, rfl, ?_⟩
      rw [any_nats (closed_some hG hne)]
      refine ⟨_, rfl, _, rfl, natD (safe (grOf many sts R) bad), (closedL (grOf many sts R) bad).map natD, nat_dp (SqL.leq (Same.leq s08) hsf), hcd s08, nat_shaped _, natss_shaped _, _, rfl, ?_⟩
      rw [any_nats (closed_safe hG hne)]
      exact q _ s08

end
end FF
namespace FF
open PySem PySem.Spec PyProof.Rows L2
/-- all but lists stays -/
def Nl (H H' : Hp) : Prop := ∀ b o, H b = some o → (∀ l, o ≠ .lst l) → H' b = some o
theorem Kp.nl {a c : Addr} {n : Nat} {H H' : Hp} (k : Kp a c H H') (h : Strm H a c n) : Nl H H' := fun b o q hl => by
  obtain ⟨_, cells, rem, acc, g1, g2, _⟩ := h
  exact k.get (fun e => by rw [e, g1] at q; exact hl _ (Option.some.inj q).symm) (fun e => by rw [e, g2] at q; exact hl _ (Option.some.inj q).symm) q
theorem Tabs.nl {T : List (Addr × Str)} {H H' : Hp} (e : Nl H H') (h : LamX.Tabs T H) : LamX.Tabs T H' := fun p hp => by
  obtain ⟨ps, h1, h2, h3⟩ := h p hp
  refine ⟨ps, e _ _ h1 (fun _ z => nomatch z), h2, fun pos cv q => ?_⟩
  obtain ⟨c, e1, e2⟩ := h3 pos cv q
  exact ⟨c, e1, e _ _ e2 (fun _ z => nomatch z)⟩
section
variable {w : World} {K : PySem.W.Frag} {mg : Str → Option Value} {base : Heap}
/-- what stands in a turn once the play is made -/
structure TurnAt (K : PySem.W.Frag) (w : World) (P : Addr) (H : Hp) (a c : Addr) (n : Nat) (pl rl tb bd : Addr) (many : Nat) (sts : List StepD) (bad : List Nat) (R : List Str) : Prop where
  strm : Strm H a c n
  play : PlayAt K w (hid a c H) pl many sts bad
  ok : PlayOk many sts bad
  seven : many ≤ 7
  tab : TabIn K (hid a c H) tb rl many sts R
  bdl : SqL K (hid a c H) bd (bad.map iV)
  nm : Names1 R
  tabs : LamX.Tabs [(P, lq)] H
theorem TurnAt.kp {P : Addr} {H H' : Hp} {a c : Addr} {n n' : Nat} {pl rl tb bd : Addr} {many : Nat} {sts : List StepD} {bad : List Nat} {R : List Str} (h : TurnAt K w P H a c n pl rl tb bd many sts bad R) (k : Kp a c H H') (s : Strm H' a c n') : TurnAt K w P H' a c n' pl rl tb bd many sts bad R :=
  ⟨s, PlayAt.same k h.play, h.ok, h.seven, TabIn.leq (Same.leq k) h.tab, SqL.leq (Same.leq k) h.bdl, h.nm, Tabs.nl (Kp.nl k h.strm) h.tabs⟩
theorem TurnAt.same {P : Addr} {H H' : Hp} {a c : Addr} {n : Nat} {pl rl tb bd : Addr} {many : Nat} {sts : List StepD} {bad : List Nat} {R : List Str} (h : TurnAt K w P H a c n pl rl tb bd many sts bad R) (k : Same H H') : TurnAt K w P H' a c n pl rl tb bd many sts bad R := h.kp (Same.kp k) (Strm.same k h.strm)
theorem bit_at (b s : Nat) : decide (V.int (Builtin.bitAnd ((b : Int) / 2 ^ ((s : Int)).toNat) 1) = V.int 1) = b.testBit s := by
  have e1 : Builtin.bitAnd ((b : Int) / 2 ^ ((s : Int)).toNat) 1 = ((b / 2 ^ s % 2 : Nat) : Int) := by
    rw [bitAnd_m1, Int.toNat_natCast]
    norm_cast
  rw [e1, Nat.testBit_eq_decide_div_mod_eq]
  refine decide_eq_decide.mpr ⟨fun e => by have := V.int.inj e; omega, fun e => by rw [e]; rfl⟩
theorem bit_pick (b n : Nat) : ((List.range n).map fun s => if b.testBit s = true then some (iV s) else none).filterMap id = (sub n b).map iV := by
  unfold sub
  have e : ∀ l : List Nat, (l.map fun s => if b.testBit s = true then some (iV s) else none).filterMap id = (l.filter fun s => b.testBit s).map iV := by
    intro l
    induction l with
    | nil => rfl
    | cons x l ih =>
      by_cases hx : b.testBit x = true
      · simp [hx, ih]
      · simp [hx, ih]
  exact e _
theorem safe_pick {G : Gr} {bad : List Nat} {n : Nat} (h : G.length = n) : ((List.range n).map fun s => if s ∈ safe G bad then some (iV s) else none).filterMap id = (safe G bad).map iV := by
  have e : ∀ l : List Nat, (l.map fun s => if s ∈ safe G bad then some (iV s) else none).filterMap id = (l.filter fun s => decide (s ∈ safe G bad)).map iV := by
    intro l
    induction l with
    | nil => rfl
    | cons x l ih =>
      by_cases hx : x ∈ safe G bad
      · simp [hx, ih]
      · simp [hx, ih]
  rw [e]
  congr 1
  have : ∀ l : List Nat, (∀ s ∈ l, s < G.length) → (l.filter fun s => decide (s ∈ safe G bad)) = l.filter fun s => @decide (∀ b ∈ bad, ¬ Rch G s b) (Classical.propDecidable _) := fun l hl => List.filter_congr fun s hs => by
    by_cases q : ∀ b ∈ bad, ¬ Rch G s b
    · rw [decide_eq_true (mem_safe.mpr ⟨hl s hs, q⟩), @decide_eq_true _ (Classical.propDecidable _) q]
    · rw [decide_eq_false (fun z => q (mem_safe.mp z).2), @decide_eq_false _ (Classical.propDecidable _) q]
  rw [this _ (fun s hs => by rw [h]; exact List.mem_range.mp hs), ← h]
  rfl

/-- the safe ones, the loop over all lists, then what is behind -/
theorem cB {P c0 fa : Addr} (C : LawC w K mg base P c0) {A : Around} {outer : List Env} {s : Shared} {H0 : Hp} {E : XK} (hr : Room 18 (lawA fa c0 A s)) : ∃ t : TS, PSs (lawX w K mg base fa c0 A outer s H0 E) (lawBody.drop 9) t ∧
    ∀ (D : Ends) (H : Hp) (a c pl rl tb bd lv lo : Addr) (m0 many : Nat) (sts : List StepD) (bad : List Nat) (R : List Str) (x0 x2 x4 x11 x12 x13 x14 x15 x16 x17 x18 x19 x20 x21 x22 x23 : Option V), TurnAt K w P H a c m0 pl rl tb bd many sts bad R → m0 + 2000 ≤ 1000000 →
      hid a c H lv = some (.dK (lvK (bfs (grOf many sts R)))) → SqL K (hid a c H) lo ((lost (grOf many sts R) bad).map iV) →
      (∀ (H' : Hp) (m1 : Nat) (v13 v14 v15 v16 v17 v18 v19 v20 v21 v22 v23 : Option V), Strm H' a c m1 → m1 ≤ m0 + 1000 → LamX.Tabs [(P, lq)] H' → D.nx [x0, some (.ref a), x2, some (iV many), x4, some (.ref bd), some (.ref rl), some (.ref pl), some (.ref tb), some (.ref lv), some (.ref lo), x11, x12, v13, v14, v15, v16, v17, v18, v19, v20, v21, v22, v23] H') → t D [x0, some (.ref a), x2, some (iV many), x4, some (.ref bd), some (.ref rl), some (.ref pl), some (.ref tb), some (.ref lv), some (.ref lo), x11, x12, x13, x14, x15, x16, x17, x18, x19, x20, x21, x22, x23] H := by
  obtain ⟨tD, hD, rD⟩ := cC1 C hr
  obtain ⟨T, Pl, Br, Bx, exm, Dm, TB, c__law_start, c__law_draw, c__law_steps, c__law_bad, c__law_rules, c__law_table, c__law_levels, c_break_run, c__law_same, c_keeps, c__law_walk, c__law_from, c_still_safe, c__law_is_closed, c_is_closed, c__law_mixed, c_is_integer, c_checked_steps, c_checked_stands⟩ := C
  have nd := sc_law.nd
  have hu := hu_of hr
  have hu65 := hu65_of hr
  refine ⟨_, (pss_cons (ps_set (i := 13) nd rfl (by first | exact Or.inl rfl | exact Or.inr rfl) (pe_lc (own := [("_law_s", 21)]) (by rfl) nd (pi_range1 (by rfl) T.n_range (pa_cons (pv 3) pa_nil)) (blkOk_by (own := [("_law_s", 21)]) (N := LN) (sc := defScope s_law) (by decide +kernel)) (fun _ _ _ _ _ => (pg_name (i := 21) nd rfl (by first | exact Or.inl rfl | exact Or.inr rfl))) (fun _ _ _ _ _ => (pts_one (pt_not (pt_val (pe_callB (show CallR _ _ (rAny K) from cr_any rfl) (by rfl) T.n_any (by decide +kernel) (pa_cons (pe_lc (own := [("_law_other", 22)]) (by rfl) nd (show PI _ _ _ (iList K _) from pi_list (pe_cal rfl c__law_from (hr.mono (by first | decide | (simp only [Nat.add_eq]; omega))) pass0 (pa_cons (pv 8) (pa_cons (pv 6) (pa_cons (pv 21) pa_nil))))) (by refine blkOk_by (own := [("_law_other", 22)]) (N := LN) ?_; kernel_rfl) (fun _ _ _ _ _ => (pg_name (i := 22) nd rfl (by first | exact Or.inl rfl | exact Or.inr rfl))) (fun _ _ _ _ _ => pts_nil) (fun _ _ _ _ _ => (pe_cmpR (show OpR _ _ (rIn K false) from op_in_seq) (pv 22) (pv 5) (by with_unfolding_all rfl)))) pa_nil)))))) (fun _ _ _ _ _ => (pv 21))))
      (pss_cons (ps_if (pt_not (pt_val (pe_cal rfl c__law_same (hr.mono (by first | decide | (simp only [Nat.add_eq]; omega))) pass0 (pa_cons (pe_cal rfl c_still_safe (hr.mono (by first | decide | (simp only [Nat.add_eq]; omega))) passF (pa_cons (pv 7) (pa_cons (pv 6) pa_nil))) (pa_cons (pv 13) pa_nil))))) (pss_one (ps_ret pe_bl)) pss_nil)
      (pss_cons (ps_set (i := 14) nd rfl (by first | exact Or.inl rfl | exact Or.inr rfl) (pe_lst pa_nil))
      (pss_cons (ps_for PassesOwn.never rfl (pi_range1 (by rfl) T.n_range (pa_cons (pe_op op_shl pe_int (pv 3)) pa_nil)) (pg_name (i := 15) nd rfl (by first | exact Or.inl rfl | exact Or.inr rfl)) (pss_cons (ps_setLc (i := 16) (own := [("_law_stand", 20)]) (by rfl) nd rfl rfl (sw_true rfl rfl rfl (by decide +kernel)) (pi_range1 (by rfl) T.n_range (pa_cons (pv 3) pa_nil)) (blkOk_by (own := [("_law_stand", 20)]) (N := LN) (sc := defScope s_law) (by decide +kernel)) (fun _ _ _ _ _ => (pg_name (i := 20) nd rfl (by first | exact Or.inl rfl | exact Or.inr rfl))) (fun _ _ _ _ _ => (pts_one (pt_cmpR op_eq (pe_op op_and (pe_op op_shr (pv 15) (pv 20)) pe_int) pe_int (nomark _)))) (fun _ _ _ _ _ => (pv 20)))
      (pss_cons (ps_set (i := 17) nd rfl (by first | exact Or.inl rfl | exact Or.inr rfl) (pe_cal rfl c__law_is_closed (hr.mono (by first | decide | (simp only [Nat.add_eq]; omega))) pass0 (pa_cons (pv 8) (pa_cons (pv 6) (pa_cons (pv 5) (pa_cons (pv 16) pa_nil))))))
      (pss_cons (ps_if (pt_not (pt_val (pe_cal rfl c__law_same (hr.mono (by first | decide | (simp only [Nat.add_eq]; omega))) pass0 (pa_cons (pe_cal rfl c_is_closed (hr.mono (by first | decide | (simp only [Nat.add_eq]; omega))) passF (pa_cons (pv 7) (pa_cons (pv 6) (pa_cons (pe_cal rfl c__law_mixed (hr.mono (by first | decide | (simp only [Nat.add_eq]; omega))) pass0 (pa_cons (pv 1) (pa_cons (pv 16) pa_nil))) pa_nil)))) (pa_cons (pv 17) pa_nil))))) (pss_one (ps_ret pe_bl)) pss_nil)
      (pss_one (ps_expr (pe_bm PySem.F.plainAttrs_list PySem.F.slot_list_extend PySem.F.type_list_extend mt_extend (pv 14) (pa_cons (pe_op op_rep (pe_lst (pa_cons (pv 16) pa_nil)) (pe_callTy call_int1 (by rfl) T.n_int (by decide +kernel) (pa_cons (pv 17) pa_nil))) pa_nil))))))))
      hD)))), fun D H a c pl rl tb bd lv lo m0 many sts bad R x0 x2 x4 x11 x12 x13 x14 x15 x16 x17 x18 x19 x20 x21 x22 x23 hT hm0 hlv hlo q0 => ?_⟩
  have hG : GrOk (grOf many sts R) := grOf_ok hT.ok.ok hT.ok.pos
  have hGl : (grOf many sts R).length = many := grOf_len
  have h7 := hT.seven
  refine ⟨_, rfl, many, rfl, by omega, by omega, fun sf hsf => ?_⟩
  refine lc_fm walk_range ((List.range many).map fun s => if s ∈ safe (grOf many sts R) bad then some (iV s) else none) (by rw [List.length_map, List.length_range, Int.toNat_natCast]) (by rw [Int.toNat_natCast]; exact Nat.le_of_lt (small1000 (by omega))) hsf (fun _ _ => trivial) (fun i o x H1 H2 ho s1 ⟨e, ex⟩ R' hR => ?_) fun H1 s1 hsf1 => ?_
  · subst e
    obtain ⟨i', hi', eo⟩ := map_get ho
    have hi : i < many := by have := (List.getElem?_eq_some_iff.mp hi').1; rw [List.length_range] at this; exact this
    have ei : i = i' := by
      rw [List.getElem?_range hi] at hi'
      exact Option.some.inj hi'
    subst ei eo
    have ex : x = iV i := ex.trans (show V.int (0 + (i : Int)) = V.int (i : Int) by rw [Int.zero_add])
    subst ex
    have hT2 := hT.same s1
    refine ⟨rfl, _, rfl, _, rfl, _, rfl, tb, rl, many, sts, R, i, rfl, TabIn.leq (Same.leq hid_le) hT2.tab, hi, fun p H5 L s5 hp0 hp hL hLf => ?_⟩
    refine ⟨p, rfl, ⟨_, SqL.of hp⟩, fun D2 hD2 => ?_⟩
    refine lc_fm (walk_list (xs := L.map iV)) (L.map fun x => some (V.bl (decide (x ∈ bad)))) (by simp) (by rw [List.length_map]; exact Nat.le_of_lt (small1000 (by omega))) hD2 (fun H6 s6 => SqL.of (s6 _ _ hp)) (fun j o y H6 H7 ho s6 ⟨e, hy⟩ R2 hR2 => ?_) fun H6 s6 hD6 => ?_
    · subst e
      obtain ⟨x0, hx0, rfl⟩ := map_get hy
      rw [List.getElem?_map, hx0] at ho
      cases ho
      refine ⟨rfl, _, rfl, _, rfl, bd, _, rfl, .inl (SqL.leq (Leq.trans (Same.leq hid_le) (Same.leq (Same.trans s5 s6))) hT2.bdl), rfl, flat_nats bad, ?_⟩
      rw [show (if false = true then !inV (iV x0) (bad.map iV) else inV (iV x0) (bad.map iV)) = decide (x0 ∈ bad) from inV_nat]
      exact hR2 _ (Same.refl _)
    · rw [fm_some] at hD6
      refine ⟨D2, L.map fun x => decide (x ∈ bad), rfl, SqL.of (by rw [hD6, List.map_map]; rfl), _, rfl, ?_⟩
      have hs56 := Same.trans s5 s6
      by_cases hsi : i ∈ safe (grOf many sts R) bad
      · have e1 : (L.map fun x => decide (x ∈ bad)).any id = false := by
          rw [List.any_eq_false]
          intro b hb
          obtain ⟨x0, hx0, rfl⟩ := List.mem_map.mp hb
          exact fun z => (mem_safe.mp hsi).2 x0 (of_decide_eq_true z) ((hL x0).mp hx0)
        rw [e1]
        rw [if_pos hsi] at hR
        exact ⟨_, rfl, hR _ hs56⟩
      · have e1 : (L.map fun x => decide (x ∈ bad)).any id = true := by
          rw [List.any_eq_true]
          refine Classical.byContradiction fun hn => hsi (mem_safe.mpr ⟨by rw [hGl]; exact hi, fun b hb r => hn ⟨true, List.mem_map.mpr ⟨b, (hL b).mpr r, decide_eq_true hb⟩, rfl⟩⟩)
        rw [e1]
        rw [if_neg hsi] at hR
        exact hR _ hs56
  · rw [safe_pick hGl] at hsf1
    have hT1 := hT.same s1
    obtain ⟨nsa, nsc⟩ := hT.strm.ne hsf
    have hsl : (safe (grOf many sts R) bad).length ≤ 7 := by
      unfold safe
      refine Nat.le_trans (List.length_filter_le _ _) ?_
      rw [List.length_range, hGl]
      exact h7
    refine ⟨_, rfl, _, rfl, pl, .ref rl, many, sts, bad, .inl R, rfl, ⟨PlayAt.same hid_le hT1.play, hT1.ok, .ok (.inl (SqL.leq (Same.leq hid_le) hT1.tab.rl)) hT1.nm⟩, fun p2 H2 s2 hp2n hp2 => ?_⟩
    refine ⟨_, rfl, .ref p2, .ref sf, natD (safe (grOf many sts R) bad), rfl, nat_dp (SqL.of hp2), nat_dp (SqL.of (s2 _ _ hsf1)), okD_nat (by omega), Nat.lt_of_le_of_lt (natD_lay _).2 (by decide), fun H3 s3 => ⟨_, rfl, ?_⟩⟩
    have s03 := Same.trans s1 (Same.trans s2 s3)
    have hT3 := hT.same s03
    have hlv3 := (Same.kp (a := a) (c := c) s03) _ _ hlv
    have hlo3 := SqL.leq (Same.leq (Same.kp (a := a) (c := c) s03)) hlo
    have hsf3 := Same.trans s2 s3 _ _ hsf1
    clear hp2 hp2n s2 s3 hT1 hsf1 s1
    refine ⟨(by decide : 0 ≤ sizeLine), fun cl hcl => ?_⟩
    obtain ⟨nca, ncc⟩ := hT3.strm.ne hcl
    have k4 : Kp a c H3 (L2.upd H3 cl (.lst [])) := Kp.new (Same.refl _) hcl
    have hS4 := Strm.same (Same.new hcl (o := .lst [])) hT3.strm
    have hcl4 : (L2.upd H3 cl (.lst [])) cl = some (.lst []) := upd_same
    generalize L2.upd H3 cl (.lst []) = H4 at k4 hS4 hcl4
    have e2 : (1 * 2 ^ ((many : Int)).toNat : Int) = ((2 ^ many : Nat) : Int) := by
      rw [Int.toNat_natCast, Int.one_mul]
      norm_cast
    refine ⟨_, rfl, _, _, rfl, rfl, ⟨by omega, by omega, by decide⟩, ?_⟩
    rw [show (fun i j : Int => V.int (i * 2 ^ j.toNat)) 1 (many : Int) = V.int ((2 ^ many : Nat) : Int) from congrArg V.int e2]
    have hpw : 2 ^ many ≤ 128 := Nat.le_trans (Nat.pow_le_pow_right (by decide) h7) (by decide)
    have hpi : (0 : Int) ≤ ((2 ^ many : Nat) : Int) ∧ ((2 ^ many : Nat) : Int) ≤ 128 := ⟨Int.natCast_nonneg _, by exact_mod_cast hpw⟩
    generalize hN : 2 ^ many = NN at hpw hpi
    refine ⟨(NN : Int), rfl, Int.le_trans (by decide) hpi.1, Int.lt_of_le_of_lt hpi.2 (by decide), ?_⟩
    refine for_it walk_range (fun b σ H5 => ∃ (m : Nat) (rs : List Addr) (y15 y16 y17 : Option V), σ = [x0, some (.ref a), x2, some (iV many), x4, some (.ref bd), some (.ref rl), some (.ref pl), some (.ref tb), some (.ref lv), some (.ref lo), x11, x12, some (.ref sf), some (.ref cl), y15, y16, y17, x18, x19, x20, x21, x22, x23] ∧ Kp a c H3 H5 ∧ Strm H5 a c m ∧ m ≤ m0 + 7 * b ∧ H5 cl = some (.lst (rs.map V.ref)) ∧
        Paired (fun r L => SqL K (hidL [cl, a, c] H5) r (L.map iV)) rs (((List.range b).map (sub many)).filter fun L => cloB (grOf many sts R) bad L))
      ⟨m0, [], _, _, _, rfl, k4, hS4, Nat.le_refl _, hcl4, .nil⟩ (fun _ _ _ _ _ => trivial) ?_ ?_
    · rintro b x σ H5x H5 hb ⟨m, rs, y15, y16, y17, rfl, k5, hS5, hm5, hcl5, hp5⟩ ⟨rfl, ex⟩
      rw [Int.toNat_natCast] at hb
      have ex : x = iV b := ex.trans (show V.int (0 + (b : Int)) = V.int (b : Int) by rw [Int.zero_add])
      subst ex
      have hT5 := hT3.kp k5 hS5
      have hsub : (sub many b).length ≤ 7 ∧ ∀ s ∈ sub many b, s < many := by
        unfold sub
        exact ⟨Nat.le_trans (List.length_filter_le _ _) (by rw [List.length_range]; exact h7), fun s hs => List.mem_range.mp (List.mem_filter.mp hs).1⟩
      refine ⟨_, rfl, many, rfl, by omega, by omega, fun so hso => ?_⟩
      refine lc_fm walk_range ((List.range many).map fun s => if b.testBit s = true then some (iV s) else none) (by rw [List.length_map, List.length_range, Int.toNat_natCast]) (by rw [Int.toNat_natCast]; exact Nat.le_of_lt (small1000 (by omega))) hso (fun _ _ => trivial) (fun i o x H1 H2 ho s1 ⟨e, ex⟩ R' hR => ?_) fun H6 s6 hso6 => ?_
      · subst e
        obtain ⟨i', hi', eo⟩ := map_get ho
        have hi : i < many := by have := (List.getElem?_eq_some_iff.mp hi').1; rw [List.length_range] at this; exact this
        have ei : i = i' := by
          rw [List.getElem?_range hi] at hi'
          exact Option.some.inj hi'
        subst ei eo
        have ex : x = iV i := ex.trans (show V.int (0 + (i : Int)) = V.int (i : Int) by rw [Int.zero_add])
        subst ex
        refine ⟨rfl, _, rfl, _, rfl, _, _, rfl, rfl, (by omega), _, _, rfl, rfl, rfl, _, rfl, ?_⟩
        rw [bit_at]
        cases hbt : b.testBit i with
        | true =>
          rw [if_pos hbt] at hR
          exact ⟨_, rfl, hR _ (Same.refl _)⟩
        | false =>
          rw [if_neg (by rw [hbt]; decide)] at hR
          exact hR _ (Same.refl _)
      · rw [bit_pick] at hso6
        have hT6 := hT5.same s6
        refine ⟨_, rfl, _, rfl, _, rfl, _, rfl, tb, rl, bd, so, many, sts, R, bad, sub many b, rfl, TabIn.leq (Same.leq hid_le) hT6.tab, SqL.leq (Same.leq hid_le) hT6.bdl, SqL.of hso6, hsub.2, by omega, fun H7 s7 => ?_⟩
        have hT7 := hT6.same s7
        obtain ⟨nsoa, nsoc⟩ := hS5.ne hso
        have hso7 := s7 _ _ hso6
        refine ⟨_, rfl, _, rfl, _, rfl, _, rfl, a, c, so, m, _, rfl, hT7.strm, SqL.of (by rw [hid_of nsoa nsoc]; exact hso7), by rw [List.length_map]; omega, by rw [List.length_map]; omega, fun ys p H8 hperm hpn hp kp8 hS8 => ?_⟩
        obtain ⟨ms, rfl, hms⟩ := perm_unmap (f := iV) (l := sub many b) hperm rfl
        have hT8 := hT7.kp kp8 hS8
        have hsnd : (sub many b).Nodup := List.nodup_range.filter _
        refine ⟨pl, .ref rl, .ref p, many, sts, bad, .inl R, some ms, rfl, ⟨PlayAt.same hid_le hT8.play, hT8.ok, .ok (.inl (SqL.leq (Same.leq hid_le) hT8.tab.rl)) hT8.nm⟩, fun _ _ => .ok (SqL.of hp) (fun n hn => hsub.2 n (hms.mem_iff.mp hn)) (by rw [hms.length_eq]; omega) (hms.nodup_iff.mpr hsnd), fun H9 s9 => ?_⟩
        rw [show cloO (grOf many sts R) bad (some ms) = cloB (grOf many sts R) bad (sub many b) from cloB_perm fun s => hms.mem_iff]
        refine ⟨_, rfl, _, _, .bool (cloB (grOf many sts R) bad (sub many b)), rfl, .bl _, .bl _, rfl, by simp [PyData.depth], fun H10 s10 => ⟨_, rfl, ?_⟩⟩
        have k10 : Kp a c H5 H10 := Same.trans (Same.kp (Same.trans s6 s7)) (Same.trans kp8 (Same.kp (Same.trans s9 s10)))
        have hS10 := Strm.same (Same.trans s9 s10) hS8
        have hcl10 := k10.get nca ncc hcl5
        have hso10 : H10 so = some (.lst ((sub many b).map iV)) := Same.trans s9 s10 _ _ (kp8.get nsoa nsoc hso7)
        have nsc2 : so ≠ cl := fun e => by rw [e, hcl5] at hso; cases hso
        cases hcb : cloB (grOf many sts R) bad (sub many b) with
        | true =>
          refine ⟨_, rfl, .inl ⟨rfl, _, SqL.of hcl10⟩, _, rfl, (by decide : 1 ≤ sizeLine), fun p1 hp1 => ⟨_, rfl, .inr ⟨true, rfl, p1, 1, [.ref so], rfl, rfl, upd_same, by decide, by decide, (by decide : 1 * 1 ≤ sizeLine), fun p2 hp2 => ?_⟩⟩⟩
          have s11 : Same H10 (L2.upd (L2.upd H10 p1 (.lst [.ref so])) p2 (.lst [.ref so])) := Same.then (Same.new hp1) hp2
          have ep2 : (L2.upd (L2.upd H10 p1 (.lst [.ref so])) p2 (.lst [.ref so])) p2 = some (.lst [.ref so]) := upd_same
          have ez : (List.replicate (1 : Int).toNat [V.ref so]).flatten = [.ref so] := rfl
          rw [ez]
          generalize L2.upd (L2.upd H10 p1 (.lst [.ref so])) p2 (.lst [.ref so]) = H11 at s11 ep2
          have hcl11 := s11 _ _ hcl10
          have hso11 := s11 _ _ hso10
          have k11 : Kp a c H5 H11 := Same.trans k10 (Same.kp s11)
          have hrl : rs.length ≤ 128 := by
            have e1 := Paired.length hp5
            have e3 := List.length_filter_le (fun L => cloB (grOf many sts R) bad L) ((List.range b).map (sub many))
            rw [List.length_map, List.length_range] at e3
            omega
          have sl : Same (hidL [cl, a, c] H5) (hidL [cl, a, c] (L2.upd H11 cl (.lst (rs.map V.ref ++ [.ref so])))) := Same.trans (Kp.hidL (S := [cl, a, c]) k11 (by simp) (by simp)) (hidL_put (by simp))
          refine ⟨cl, p2, _, [.ref so], rfl, rfl, hcl11, ep2, ?_, m + ((sub many b).map iV).length, rs ++ [so], _, _, _, rfl, Kp.over (Same.trans k5 k11) hcl, Strm.put (Strm.same s11 hS10) nca ncc, by rw [List.length_map]; omega, ?_, ?_⟩
          · rw [List.length_map]
            exact Nat.le_of_lt (Nat.lt_of_le_of_lt (Nat.add_le_add hrl (show ([.ref so] : List V).length ≤ 1 by simp)) (by decide))
          · rw [upd_same]
            simp
          · rw [List.range_succ, List.map_append, List.filter_append, List.map_singleton, show ([sub many b].filter fun L => cloB (grOf many sts R) bad L) = [sub many b] by simp [hcb]]
            refine paired_snoc (paired_map hp5 fun _ _ q => SqL.leq (Same.leq sl) q) (SqL.of ?_)
            rw [hidL_not (by simp [nsc2, nsoa, nsoc]), upd_ne nsc2]
            exact hso11
        | false =>
          refine ⟨_, rfl, .inl ⟨rfl, _, SqL.of hcl10⟩, _, rfl, (by decide : 1 ≤ sizeLine), fun p1 hp1 => ⟨_, rfl, .inr ⟨false, rfl, p1, 0, [.ref so], rfl, rfl, upd_same, by decide, by decide, (by decide : 1 * 0 ≤ sizeLine), fun p2 hp2 => ?_⟩⟩⟩
          have s11 : Same H10 (L2.upd (L2.upd H10 p1 (.lst [.ref so])) p2 (.lst [])) := Same.then (Same.new hp1) hp2
          have ep2 : (L2.upd (L2.upd H10 p1 (.lst [.ref so])) p2 (.lst [])) p2 = some (.lst []) := upd_same
          have ez : (List.replicate (0 : Int).toNat [V.ref so]).flatten = [] := rfl
          rw [ez]
          generalize L2.upd (L2.upd H10 p1 (.lst [.ref so])) p2 (.lst []) = H11 at s11 ep2
          have hcl11 := s11 _ _ hcl10
          have hso11 := s11 _ _ hso10
          have k11 : Kp a c H5 H11 := Same.trans k10 (Same.kp s11)
          have hrl : rs.length ≤ 128 := by
            have e1 := Paired.length hp5
            have e3 := List.length_filter_le (fun L => cloB (grOf many sts R) bad L) ((List.range b).map (sub many))
            rw [List.length_map, List.length_range] at e3
            omega
          have sl : Same (hidL [cl, a, c] H5) (hidL [cl, a, c] (L2.upd H11 cl (.lst (rs.map V.ref ++ [])))) := Same.trans (Kp.hidL (S := [cl, a, c]) k11 (by simp) (by simp)) (hidL_put (by simp))
          refine ⟨cl, p2, _, [], rfl, rfl, hcl11, ep2, ?_, m + ((sub many b).map iV).length, rs, _, _, _, rfl, Kp.over (Same.trans k5 k11) hcl, Strm.put (Strm.same s11 hS10) nca ncc, by rw [List.length_map]; omega, ?_, ?_⟩
          · rw [List.length_map]
            exact Nat.le_of_lt (Nat.lt_of_le_of_lt (Nat.add_le_add hrl (show ([] : List V).length ≤ 1 by simp)) (by decide))
          · rw [upd_same]
            simp
          · have ef : (((List.range (b + 1)).map (sub many)).filter fun L => cloB (grOf many sts R) bad L) = ((List.range b).map (sub many)).filter fun L => cloB (grOf many sts R) bad L := by
              rw [List.range_succ, List.map_append, List.filter_append, List.map_singleton, show ([sub many b].filter fun L => cloB (grOf many sts R) bad L) = [] by simp [hcb], List.append_nil]
            rw [ef]
            exact paired_map hp5 fun _ _ q => SqL.leq (Same.leq sl) q
    · rintro σ H5 ⟨m, rs, y15, y16, y17, rfl, k5, hS5, hm5, hcl5, hp5⟩
      have hT5 := hT3.kp k5 hS5
      have ecl : (((List.range ((NN : Int)).toNat).map (sub many)).filter fun L => cloB (grOf many sts R) bad L) = closedL (grOf many sts R) bad := by
        unfold closedL
        rw [hGl, Int.toNat_natCast, hN]
      rw [ecl] at hp5
      have hm6 : m ≤ m0 + 1000 := by rw [Int.toNat_natCast] at hm5; omega
      obtain ⟨nla, nlc⟩ := hid_ne hlv3
      refine rD D H5 pl rl lv lo sf cl many sts bad R x0 (some (.ref a)) x2 x4 (some (.ref bd)) (some (.ref tb)) x11 x12 y15 y16 y17 x18 x19 x20 x21 x22 x23 (PlayAt.same hid_le hT5.play) hT5.ok h7 (SqL.leq (Same.leq hid_le) hT5.tab.rl) hT5.nm hT5.tabs (hid_le _ _ (k5 _ _ hlv3)) (SqL.leq (Leq.trans (Same.leq k5) (Same.leq hid_le)) hlo3) (SqL.of (k5.get nsa nsc hsf3)) ⟨rs, SqL.of hcl5, paired_map hp5 fun _ _ q => SqL.leq (Same.leq hidL_le) q⟩ fun H' v18 v19 e' hT' => q0 H' m _ _ _ _ _ _ _ _ _ _ _ (Strm.ext e' hS5) hm6 hT'

end
end FF
namespace FF
open PySem PySem.Spec PyProof.Rows L2
section
variable {w : World} {K : PySem.W.Frag} {mg : Str → Option Value} {base : Heap}
/-- the lengths at bad stands -/
def lostO (bad : List Nat) (F : Fnd) : List (Option V) := F.map fun x => if x.1 ∈ bad then some (iV x.2.length) else none
theorem lostO_pick {G : Gr} {bad : List Nat} : (lostO bad (bfs G)).filterMap id = (lost G bad).map iV := by
  unfold lost brk
  generalize bfs G = F
  induction F with
  | nil => rfl
  | cons x F ih =>
    have e : lostO bad (x :: F) = (if x.1 ∈ bad then some (iV x.2.length) else none) :: lostO bad F := rfl
    rw [e]
    by_cases hx : x.1 ∈ bad
    · rw [if_pos hx, List.filter_cons, if_pos (decide_eq_true hx)]
      show iV x.2.length :: (lostO bad F).filterMap id = _
      rw [ih]
      rfl
    · rw [if_neg hx, List.filter_cons, if_neg (by simpa using hx)]
      exact ih
theorem bfsGo_sh {G : Gr} : ∀ (n : Nat) {F : Fnd} {i : Nat}, Sh F → Sh (bfsGo G n F i)
  | 0, _, _, h => h
  | n + 1, F, i, h => by
    cases hi : F[i]? with
    | none => rw [bfsGo_end hi]; exact h
    | some x =>
      obtain ⟨h0, run⟩ := x
      rw [bfsGo_step hi]
      exact bfsGo_sh n (Sh.row _ h (Nat.lt_of_le_of_lt (h _ _ hi) (List.getElem?_eq_some_iff.mp hi).1))
theorem brk_short {G : Gr} (ok : GrOk G) {bad : List Nat} {run : List Wd} (h : run ∈ brk G bad) : run.length ≤ G.length := by
  unfold brk at h
  obtain ⟨x, hx, rfl⟩ := List.mem_map.mp h
  obtain ⟨j, hj⟩ := List.mem_iff_getElem?.mp (List.mem_filter.mp hx).1
  have h0 : Sh [((0 : Nat), ([] : List Wd))] := fun j x hx => by
    cases j with
    | zero => cases hx; exact Nat.le_refl _
    | succ j => cases hx
  have h1 : x.2.length ≤ j := bfsGo_sh (G := G) (G.length + 1) h0 j x hj
  have h2 := (List.getElem?_eq_some_iff.mp hj).1
  have h3 := (bfs_inv ok).len
  omega
mutual
theorem okD_word : ∀ k : NestedKey, wordB k = true → okD k.data = true
  | .none, h => by cases h
  | .num _, _ => by simp [NestedKey.data, okD]
  | .text _, _ => by simp [NestedKey.data, okD]
  | .tup ks, h => by
    have h' : (decide (ks.length ≤ 1000) && wordsB ks) = true := h
    rw [Bool.and_eq_true, decide_eq_true_eq] at h'
    simp only [NestedKey.data, okD, Bool.and_eq_true, decide_eq_true_eq]
    exact ⟨by rw [datas_map, List.length_map]; exact h'.1, okD_words ks h'.2⟩
theorem okD_words : ∀ ks : List NestedKey, wordsB ks = true → okDs (NestedKey.datas ks) = true
  | [], _ => by simp [NestedKey.datas, okDs]
  | k :: ks, h => by
    have h' : (wordB k && wordsB ks) = true := h
    rw [Bool.and_eq_true] at h'
    simp only [NestedKey.datas, okDs, Bool.and_eq_true]
    exact ⟨okD_word k h'.1, okD_words ks h'.2⟩
end
theorem okD_run {ws : List Wd} (h : ∀ k ∈ ws, wordOk k = true) (hl : ws.length ≤ 1000) : okD (runD ws) = true := by
  simp only [runD, okD, Bool.and_eq_true, decide_eq_true_eq]
  refine ⟨by rw [List.length_map]; exact hl, ?_⟩
  clear hl
  induction ws with
  | nil => simp [okDs]
  | cons k ws ih =>
    simp only [List.map_cons, okDs, Bool.and_eq_true]
    exact ⟨okD_word k (wordOk_iff.mp (h k List.mem_cons_self)).2.2, ih fun x hx => h x (List.mem_cons_of_mem _ hx)⟩

/-- the levels, the lost ones, the run that breaks, then what is behind -/
theorem cA2 {P c0 fa : Addr} (C : LawC w K mg base P c0) {A : Around} {outer : List Env} {s : Shared} {H0 : Hp} {E : XK} (hr : Room 18 (lawA fa c0 A s)) : ∃ t : TS, PSs (lawX w K mg base fa c0 A outer s H0 E) (lawBody.drop 4) t ∧
    ∀ (D : Ends) (H : Hp) (a c pl rl tb bd : Addr) (m0 many : Nat) (sts : List StepD) (bad : List Nat) (R : List Str) (x0 x2 x4 x9 x10 x11 x12 x13 x14 x15 x16 x17 x18 x19 x20 x21 x22 x23 : Option V), TurnAt K w P H a c m0 pl rl tb bd many sts bad R → m0 + 2000 ≤ 1000000 →
      (∀ (H' : Hp) (m1 : Nat) (v9 v10 v11 v12 v13 v14 v15 v16 v17 v18 v19 v20 v21 v22 v23 : Option V), Strm H' a c m1 → m1 ≤ m0 + 1000 → LamX.Tabs [(P, lq)] H' → D.nx [x0, some (.ref a), x2, some (iV many), x4, some (.ref bd), some (.ref rl), some (.ref pl), some (.ref tb), v9, v10, v11, v12, v13, v14, v15, v16, v17, v18, v19, v20, v21, v22, v23] H') → t D [x0, some (.ref a), x2, some (iV many), x4, some (.ref bd), some (.ref rl), some (.ref pl), some (.ref tb), x9, x10, x11, x12, x13, x14, x15, x16, x17, x18, x19, x20, x21, x22, x23] H := by
  obtain ⟨tD, hD, rD⟩ := cB C hr
  obtain ⟨T, Pl, Br, Bx, exm, Dm, TB, c__law_start, c__law_draw, c__law_steps, c__law_bad, c__law_rules, c__law_table, c__law_levels, c_break_run, c__law_same, c_keeps, c__law_walk, c__law_from, c_still_safe, c__law_is_closed, c_is_closed, c__law_mixed, c_is_integer, c_checked_steps, c_checked_stands⟩ := C
  have nd := sc_law.nd
  have hu := hu_of hr
  have hu65 := hu65_of hr
  refine ⟨_, (pss_cons (ps_set (i := 9) nd rfl (by first | exact Or.inl rfl | exact Or.inr rfl) (pe_cal rfl c__law_levels (hr.mono (by first | decide | (simp only [Nat.add_eq]; omega))) pass0 (pa_cons (pv 8) (pa_cons (pv 6) pa_nil))))
      (pss_cons (ps_lock (ps_setLc (i := 10) (own := [("_law_stand", 20)]) (by rfl) nd rfl rfl (sw_true rfl rfl rfl (by decide +kernel)) (pi_keys (pv 9)) (blkOk_by (own := [("_law_stand", 20)]) (N := LN) (sc := defScope s_law) (by decide +kernel)) (fun _ _ _ _ _ => (pg_name (i := 20) nd rfl (by first | exact Or.inl rfl | exact Or.inr rfl))) (fun _ _ _ _ _ => (pts_one (pt_cmpR (show OpR _ _ (rIn K false) from op_in_seq) (pv 20) (pv 5) (by with_unfolding_all rfl)))) (fun _ _ _ _ _ => (pe_dget hu (pv 9) (pv 20) (fun _ _ => rfl)))))
      (pss_cons (ps_set (i := 11) nd rfl (by first | exact Or.inl rfl | exact Or.inr rfl) (pe_cal rfl c_break_run (hr.mono (by first | decide | (simp only [Nat.add_eq]; omega))) passF (pa_cons (pv 7) (pa_cons (pv 6) pa_nil))))
      (pss_cons (ps_if (PW.pt (pw_or (pt_not (pt_val (pe_cal rfl c__law_same (hr.mono (by first | decide | (simp only [Nat.add_eq]; omega))) pass0 (pa_cons (pe_cal rfl c_keeps (hr.mono (by first | decide | (simp only [Nat.add_eq]; omega))) passF (pa_cons (pv 7) (pa_cons (pe_callTy call_tuple_of (by rfl) T.n_tuple (by decide +kernel) (pa_cons (pv 6) pa_nil)) pa_nil))) (pa_cons (pe_cmpR (op_eqD hr.units) (pv 10) (pe_lst pa_nil) (nomark _)) pa_nil))))) (pw_or1 (pt_cmpR op_ne (pe_cmp (pc_isN (pv 11)) rfl) (pe_cmpR (op_eqD hr.units) (pv 10) (pe_lst pa_nil) (nomark _)) (nomark _))))) (pss_one (ps_ret pe_bl)) pss_nil)
      (pss_cons (ps_if (pt_cmp (pc_notN (pv 11)) rfl) (pss_cons (ps_set (i := 12) nd rfl (by first | exact Or.inl rfl | exact Or.inr rfl) (pe_callTy call_list_of (by rfl) T.n_list (by decide +kernel) (pa_cons (pv 11) pa_nil)))
      (pss_cons (ps_if (PW.pt (pw_or (pt_cmpR op_ne (pe_callB call_len_seq (by rfl) T.n_len (by decide +kernel) (pa_cons (pv 11) pa_nil)) (pe_callB (cr_min rfl) (by rfl) T.n_min (by decide +kernel) (pa_cons (pv 10) pa_nil)) (nomark _)) (pw_or (pt_cmpR op_notIn_seq (pe_cal rfl c__law_walk (hr.mono (by first | decide | (simp only [Nat.add_eq]; omega))) pass0 (pa_cons (pv 8) (pa_cons (pv 6) (pa_cons (pv 11) pa_nil)))) (pv 5) (by with_unfolding_all rfl)) (pw_or1 (pt_cmp (pc_notN (pe_bm PySem.F.plainAttrs_list PySem.F.slot_list_append PySem.F.type_list_append mt_append (pv 11) (pa_cons pe_str pa_nil))) rfl))))) (pss_one (ps_ret pe_bl)) pss_nil)
      (pss_one (ps_if (pt_not (pt_val (pe_cal rfl c__law_same (hr.mono (by first | decide | (simp only [Nat.add_eq]; omega))) pass0 (pa_cons (pe_cal rfl c_break_run (hr.mono (by first | decide | (simp only [Nat.add_eq]; omega))) passF (pa_cons (pv 7) (pa_cons (pe_callTy call_tuple_of (by rfl) T.n_tuple (by decide +kernel) (pa_cons (pv 6) pa_nil)) pa_nil))) (pa_cons (pv 12) pa_nil))))) (pss_one (ps_ret pe_bl)) pss_nil)))) pss_nil)
      hD))))), fun D H a c pl rl tb bd m0 many sts bad R x0 x2 x4 x9 x10 x11 x12 x13 x14 x15 x16 x17 x18 x19 x20 x21 x22 x23 hT hm0 q0 => ?_⟩
  have hG : GrOk (grOf many sts R) := grOf_ok hT.ok.ok hT.ok.pos
  have hGl : (grOf many sts R).length = many := grOf_len
  have h7 := hT.seven
  have hB := bfs_inv hG
  have hBl := hB.len
  have hgl := hT.ok.lay (R := R)
  refine ⟨_, rfl, _, rfl, tb, rl, many, sts, R, rfl, TabIn.leq (Same.leq hid_le) hT.tab, fun lv H1 s1 hlvn hlv => ?_⟩
  have hT1 := hT.same s1
  obtain ⟨nla, nlc⟩ := hT.strm.ne hlvn
  have hkl : (lvK (bfs (grOf many sts R))).length = (bfs (grOf many sts R)).length := by unfold lvK; rw [List.length_map]
  have hkn : ((lvK (bfs (grOf many sts R))).map (·.1)).Nodup := by
    have e : (lvK (bfs (grOf many sts R))).map (·.1) = kI ((bfs (grOf many sts R)).map (·.1)) := by
      show _ = ((bfs (grOf many sts R)).map (·.1)).map kN
      unfold lvK
      rw [List.map_map, List.map_map]
      rfl
    rw [e]
    exact kI_nodup hB.nd
  refine ⟨lv, _, hlv, trivial, fun od => ⟨_, rfl, lv, od, rfl, .inl ⟨_, upd_same, fun lo hlo => ?_⟩⟩⟩
  refine lc_fm walk_keys (lostO bad (bfs (grOf many sts R))) (by unfold lostO; rw [List.length_map, hkl]) (Nat.le_of_lt (small1000 (by omega))) hlo (fun H4 s4 => s4 _ _ upd_same) (fun i o x H4 H5 ho s4 ⟨e, k, z, hkz, ex⟩ R' hR => ?_) fun H4 s4 hD4 => ?_
  · subst e ex
    have hkz0 := hkz
    unfold lvK at hkz
    obtain ⟨x, hx, e⟩ := map_get hkz
    cases e
    have lk : Leq H1 (L2.upd H1 lv (.frz od (.dK (lvK (bfs (grOf many sts R)))))) := Leq.lock hlv fun _ _ z => nomatch z
    unfold lostO at ho
    rw [List.getElem?_map, hx] at ho
    cases ho
    dsimp only at hR
    refine ⟨rfl, _, rfl, _, rfl, bd, _, rfl, .inl (SqL.leq (Leq.trans (Same.leq hid_le) (Leq.trans lk (Same.leq s4))) hT1.bdl), rfl, flat_nats bad, _, rfl, ?_⟩
    rw [show (if false = true then !inV (kV (kN x.1)) (bad.map iV) else inV (kV (kN x.1)) (bad.map iV)) = decide (x.1 ∈ bad) from inV_nat]
    by_cases hxb : x.1 ∈ bad
    · rw [decide_eq_true hxb]
      rw [if_pos hxb] at hR
      exact ⟨_, rfl, _, rfl, lv, _, rfl, .inl ⟨_, kN x.1, .inr ⟨od, s4 _ _ upd_same⟩, rfl, (valV_at hkn hkz0).symm⟩, hR _ (Same.refl _)⟩
    · rw [decide_eq_false hxb]
      rw [if_neg hxb] at hR
      exact hR _ (Same.refl _)
  · have hf4 := s4 _ _ (upd_same (H := H1) (a := lv) (o := .frz od (.dK (lvK (bfs (grOf many sts R))))))
    have nol : lo ≠ lv := fun e => by
      rw [e, upd_same] at hlo
      cases hlo
    have s14 : Same H1 (L2.upd H4 lv (.dK (lvK (bfs (grOf many sts R))))) := Same.unlock hlv s4
    have hlo5 : (L2.upd H4 lv (.dK (lvK (bfs (grOf many sts R))))) lo = some (.lst ((lost (grOf many sts R) bad).map iV)) := by rw [upd_ne nol, hD4, lostO_pick]
    refine ⟨hf4, ?_⟩
    have hlo1 : H1 lo = none := by rw [upd_ne nol] at hlo; exact hlo
    generalize L2.upd H4 lv (.dK (lvK (bfs (grOf many sts R)))) = H5 at s14 hlo5
    obtain ⟨noa, noc⟩ := hT1.strm.ne hlo1
    have hT5 := hT1.same s14
    have hlv5 := s14 _ _ hlv
    clear hf4 hD4 s4 hlo
    refine ⟨_, rfl, _, rfl, pl, .ref rl, many, sts, bad, .inl R, rfl, ⟨PlayAt.same hid_le hT5.play, hT5.ok, .ok (.inl (SqL.leq (Same.leq hid_le) hT5.tab.rl)) hT5.nm⟩, fun v' H6 s6 hv => ?_⟩
    refine ⟨_, rfl, _, rfl, rl, _, rfl, .inl ⟨SqL.leq (Leq.trans (Same.leq hid_le) (Same.leq s6)) hT5.tab.rl, fun tp htp => ?_⟩⟩
    have s67 : Same H6 (L2.upd H6 tp (.tup (R.map V.str))) := Same.new htp
    have etp : (L2.upd H6 tp (.tup (R.map V.str))) tp = some (.tup (R.map V.str)) := upd_same
    generalize L2.upd H6 tp (.tup (R.map V.str)) = H7 at s67 etp
    have hT7 := hT5.same (Same.trans s6 s67)
    refine ⟨pl, .ref tp, many, sts, bad, .inl R, rfl, ⟨PlayAt.same hid_le hT7.play, hT7.ok, .ok (.inr (SqT.of etp)) hT7.nm⟩, fun H8 s8 => ?_⟩
    have s68 := Same.trans s67 s8
    refine ⟨_, rfl, (by decide : 0 ≤ sizeLine), fun pe hpe => ⟨natD (lost (grOf many sts R) bad), .list [], nat_dp (SqL.of (Same.then (Same.trans s6 s68) hpe _ _ hlo5)), .lst (SqL.of upd_same) .nil, nat_shaped _, shaped_nil, ?_⟩⟩
    have s69 : Same H6 (L2.upd H8 pe (.lst [])) := Same.then s68 hpe
    generalize L2.upd H8 pe (.lst []) = H9 at s69
    rw [nat_nil, lost_nil]
    refine ⟨_, _, .bool (brk (grOf many sts R) bad).isEmpty, rfl, .bl _, .bl _, rfl, by simp [PyData.depth], fun H10 s10 => ⟨_, rfl, ?_⟩⟩
    have s610 := Same.trans s69 s10
    clear s67 etp s8 s68 s69 s10 hT7
    refine ⟨_, rfl, _, rfl, (by decide : 0 ≤ sizeLine), fun pe2 hpe2 => ⟨natD (lost (grOf many sts R) bad), .list [], nat_dp (SqL.of (Same.then (Same.trans s6 s610) hpe2 _ _ hlo5)), .lst (SqL.of upd_same) .nil, nat_shaped _, shaped_nil, rfl, _, rfl, ?_⟩⟩
    have s611 : Same H6 (L2.upd H10 pe2 (.lst [])) := Same.then s610 hpe2
    generalize L2.upd H10 pe2 (.lst []) = H11 at s611
    rw [nat_nil, lost_nil]
    have hvn : decide (v' = V.non) = (brk (grOf many sts R) bad).isEmpty := by
      cases hbk : brk (grOf many sts R) bad with
      | nil =>
        rw [hbk] at hv
        exact decide_eq_true hv
      | cons r0 rest =>
        rw [hbk] at hv
        obtain ⟨_, x, rfl, _⟩ := hv
        rfl
    rw [hvn, decide_eq_true rfl]
    have s56 := Same.trans s6 s611
    have fin : ∀ (H' : Hp) (y12 : Option V), Same H5 H' → tD D [x0, some (.ref a), x2, some (iV many), x4, some (.ref bd), some (.ref rl), some (.ref pl), some (.ref tb), some (.ref lv), some (.ref lo), some v', y12, x13, x14, x15, x16, x17, x18, x19, x20, x21, x22, x23] H' := fun H' y12 s' =>
      rD D H' a c pl rl tb bd lv lo m0 many sts bad R x0 x2 x4 (some v') y12 x13 x14 x15 x16 x17 x18 x19 x20 x21 x22 x23 (hT5.same s') hm0 (by rw [hid_of nla nlc]; exact s' _ _ hlv5) (SqL.of (by rw [hid_of noa noc]; exact s' _ _ hlo5)) fun H2 m1 v13 v14 v15 v16 v17 v18 v19 v20 v21 v22 v23 h1 h2 h3 => q0 H2 m1 _ _ _ _ v13 v14 v15 v16 v17 v18 v19 v20 v21 v22 v23 h1 h2 h3
    refine ⟨_, rfl, _, rfl, ?_⟩
    have hbk0 : ∀ run ∈ brk (grOf many sts R) bad, ∀ k ∈ run, wordOk k = true := brk_lay hG hgl
    rw [hvn]
    cases hbk : brk (grOf many sts R) bad with
    | nil => exact fin H11 x12 s56
    | cons run rest =>
      rw [hbk] at hv
      obtain ⟨⟨x, xs, rfl, hx, hxr⟩, x', ex', hxn⟩ := hv
      cases ex'
      have hrm : run ∈ brk (grOf many sts R) bad := by rw [hbk]; exact List.mem_cons_self
      have hrok := hbk0 run hrm
      have hrl := brk_short hG hrm
      have lxs : xs.length = run.length := Paired.length hxr
      obtain ⟨hst, hstb, hwk⟩ := brk_run hG hrm
      have hx11 := s611 _ _ hx
      refine ⟨_, rfl, x, xs, rfl, .inl (SqL.of hx11), fun ws hws => ?_⟩
      have s1112 : Same H11 (L2.upd H11 ws (.lst xs)) := Same.new hws
      have ews : (L2.upd H11 ws (.lst xs)) ws = some (.lst xs) := upd_same
      generalize L2.upd H11 ws (.lst xs) = H12 at s1112 ews
      have s512 := Same.trans s56 s1112
      have s612 := Same.trans s611 s1112
      have hx12 := s1112 _ _ hx11
      have hlo12 := s512 _ _ hlo5
      have elo : ((lost (grOf many sts R) bad).map iV) = ((lost (grOf many sts R) bad).map iN).map V.int := by rw [List.map_map]; rfl
      have hlpos : 0 < ((lost (grOf many sts R) bad).map iN).length := by
        unfold lost
        rw [hbk]
        simp
      refine ⟨_, rfl, x, _, rfl, .inl (SqL.of hx12), _, rfl, lo, _, rfl, SqL.of (by rw [hlo12, elo]), hlpos, fun mn hmn hle => ⟨rfl, _, rfl, ?_⟩⟩
      obtain ⟨mn', hmn', rfl⟩ := List.mem_map.mp hmn
      have emn : mn' = run.length := lost_min hG hbk hmn' fun y hy => by
        have := hle (iN y) (List.mem_map.mpr ⟨y, hy, rfl⟩)
        exact Int.ofNat_le.mp this
      rw [decide_eq_true (show V.int (xs.length : Nat) = V.int (iN mn') by rw [lxs, emn])]
      have hT12 := hT5.same s512
      refine ⟨_, rfl, _, rfl, _, rfl, tb, rl, .ref x, many, sts, R, run, hst, rfl, TabIn.leq (Same.leq hid_le) hT12.tab, ⟨x, xs, rfl, hx12, paired_map hxr fun _ _ q => WdAt.tle (Same.tle s612) q⟩, hrok, hwk, fun H13 s13 => ?_⟩
      have s513 := Same.trans s512 s13
      refine ⟨_, rfl, bd, _, rfl, .inl (SqL.leq (Leq.trans (Same.leq hid_le) (Same.leq s513)) hT5.bdl), rfl, flat_nats bad, _, rfl, ?_⟩
      rw [show (if true = true then !inV (iV hst) (bad.map iV) else inV (iV hst) (bad.map iV)) = false by rw [inV_nat, decide_eq_true hstb]; rfl]
      have hx13 := s13 _ _ hx12
      refine ⟨_, rfl, .inl ⟨rfl, _, SqL.of hx13⟩, x, _, .str "late", rfl, rfl, hx13, small1000 (by omega), _, rfl, ?_⟩
      have s514 : Same H5 (L2.upd H13 x (.lst (xs ++ [.str "late"]))) := Same.over s513 hxn
      have nwx : ws ≠ x := fun e => by rw [e, hx11] at hws; cases hws
      have ews14 : (L2.upd H13 x (.lst (xs ++ [.str "late"]))) ws = some (.lst xs) := by rw [upd_ne nwx]; exact s13 _ _ ews
      have t614 : Tle H6 (L2.upd H13 x (.lst (xs ++ [.str "late"]))) := Tle.trans (Same.tle (Same.trans s612 s13)) (tle_lst hx13)
      generalize L2.upd H13 x (.lst (xs ++ [.str "late"])) = H14 at s514 ews14 t614
      have hT14 := hT5.same s514
      refine ⟨_, rfl, _, rfl, rl, _, rfl, .inl ⟨SqL.leq (Same.leq hid_le) hT14.tab.rl, fun tp2 htp2 => ?_⟩⟩
      have s1415 : Same H14 (L2.upd H14 tp2 (.tup (R.map V.str))) := Same.new htp2
      have etp2 : (L2.upd H14 tp2 (.tup (R.map V.str))) tp2 = some (.tup (R.map V.str)) := upd_same
      generalize L2.upd H14 tp2 (.tup (R.map V.str)) = H15 at s1415 etp2
      have hT15 := hT14.same s1415
      refine ⟨pl, .ref tp2, many, sts, bad, .inl R, rfl, ⟨PlayAt.same hid_le hT15.play, hT15.ok, .ok (.inr (SqT.of etp2)) hT15.nm⟩, fun v2 H16 s16 hv2 => ?_⟩
      rw [hbk] at hv2
      have s1416 := Same.trans s1415 s16
      have dws : Dp K H16 (.ref ws) (runD run) := RunAt.dp ⟨ws, xs, rfl, s1416 _ _ ews14, paired_map hxr fun _ _ q => WdAt.tle (Tle.trans t614 (Same.tle s1416)) q⟩
      refine ⟨_, rfl, v2, .ref ws, runD run, rfl, RunAt.dp hv2.1, dws, okD_run hrok (by omega), Nat.lt_of_le_of_lt (run_lay hrok).2 (by decide), fun H17 s17 => ⟨_, rfl, ?_⟩⟩
      exact fin H17 _ (Same.trans s514 (Same.trans s1416 s17))

end
end FF
namespace FF
open PySem PySem.Spec PyProof.Rows L2
section
variable {w : World} {K : PySem.W.Frag} {mg : Str → Option Value} {base : Heap}
theorem PlayNew.under {H0 H : Hp} {a c : Addr} {n : Nat} {x : Addr} {many : Nat} {sts : List StepD} {bad : List Nat} (h : PlayNew K w H0 H x many sts bad) (s0 : Strm H0 a c n) (s : Strm H a c n) : PlayAt K w (hid a c H) x many sts bad := by
  obtain ⟨dx, t, b, ds, ms, ht, hb, h1, h2, h3, h4⟩ := h
  have key : ∀ p o, H p = some o → (∀ l, o ≠ .lst l) → hid a c H p = some o := fun p o q hl => by
    obtain ⟨⟨la, ga⟩, lc, gc⟩ := s.two
    rw [hid_of (fun e => by rw [e, ga] at q; exact hl _ (Option.some.inj q).symm) (fun e => by rw [e, gc] at q; exact hl _ (Option.some.inj q).symm)]
    exact q
  have tl : Tle H (hid a c H) := fun p ys r => r.elim (fun q => .inl (key _ _ q fun _ z => nomatch z)) fun ⟨o, q⟩ => .inr ⟨o, key _ _ q fun _ z => nomatch z⟩
  obtain ⟨nta, ntc⟩ := s0.ne ht
  obtain ⟨nba, nbc⟩ := s0.ne hb
  refine ⟨dx, t, b, ds, ms, key _ _ h1 (fun _ z => nomatch z), ⟨by rw [hid_of nta ntc]; exact h2.lst, h2.len, h2.nd, fun i d hd => ?_⟩, by rw [hid_of nba nbc]; exact h3, h4⟩
  obtain ⟨es, ep, q1, q2⟩ := h2.rows i d hd
  exact ⟨es, ep, key _ _ q1 (fun _ z => nomatch z), paired_map q2 fun x st ⟨r1, r2, s, bt, wv, sd, bars, r3, r4, r5, r6, r7⟩ => ⟨r1, WdAt.tle tl r2, s, bt, wv, sd, bars, r3, key _ _ r4 (fun _ z => nomatch z), word_tle tl _ _ r5, key _ _ r6 (fun _ z => nomatch z), r7⟩⟩
theorem steps_bars {H : Hp} {p : Addr} {sts : List StepD} (h : StepsAt K H p sts) : ∀ st ∈ sts, st.bars.length ≤ 60 := by
  obtain ⟨xs, _, hp⟩ := h
  intro st hst
  obtain ⟨i, hi⟩ := List.mem_iff_getElem?.mp hst
  obtain ⟨x, _, hs⟩ := paired_at hp hi
  exact hs.nm.few
theorem StepsAt.same {H H' : Hp} {p : Addr} {sts : List StepD} (s : Same H H') (h : StepsAt K H p sts) : StepsAt K H' p sts := let ⟨xs, h1, h2⟩ := h; ⟨xs, SqL.leq (Same.leq s) h1, paired_map h2 fun _ _ q => StepAt.same s q⟩
/-- what is drawn, before the play is made -/
structure DrawnAt (K : PySem.W.Frag) (P : Addr) (H : Hp) (a c : Addr) (n : Nat) (sp bd rl : Addr) (many : Nat) (sts : List StepD) (bad : List Nat) (R : List Str) : Prop where
  strm : Strm H a c n
  steps : StepsAt K (hid a c H) sp sts
  ok : StepsOk many sts
  words : ∀ st ∈ sts, wordOk st.k = true
  pos : 1 ≤ many
  seven : many ≤ 7
  bdl : SqL K (hid a c H) bd (bad.map iV)
  bnd : bad.Nodup
  blt : ∀ b ∈ bad, b < many
  rll : SqL K (hid a c H) rl (R.map V.str)
  nm : Names1 R
  tabs : LamX.Tabs [(P, lq)] H
theorem DrawnAt.kp {P : Addr} {H H' : Hp} {a c : Addr} {n n' : Nat} {sp bd rl : Addr} {many : Nat} {sts : List StepD} {bad : List Nat} {R : List Str} (h : DrawnAt K P H a c n sp bd rl many sts bad R) (k : Kp a c H H') (s : Strm H' a c n') : DrawnAt K P H' a c n' sp bd rl many sts bad R :=
  ⟨s, StepsAt.same k h.steps, h.ok, h.words, h.pos, h.seven, SqL.leq (Same.leq k) h.bdl, h.bnd, h.blt, SqL.leq (Same.leq k) h.rll, h.nm, Tabs.nl (Kp.nl k h.strm) h.tabs⟩

/-- the play and the law's own table, then what is behind -/
theorem cA1 {P c0 fa : Addr} (C : LawC w K mg base P c0) {A : Around} {outer : List Env} {s : Shared} {H0 : Hp} {E : XK} (hr : Room 18 (lawA fa c0 A s)) : ∃ t : TS, PSs (lawX w K mg base fa c0 A outer s H0 E) (lawBody.drop 3) t ∧
    ∀ (D : Ends) (H : Hp) (a c sp bd rl : Addr) (m0 many : Nat) (sts : List StepD) (bad : List Nat) (R : List Str) (x0 x2 x7 x8 x9 x10 x11 x12 x13 x14 x15 x16 x17 x18 x19 x20 x21 x22 x23 : Option V), DrawnAt K P H a c m0 sp bd rl many sts bad R → m0 + 2000 ≤ 1000000 →
      (∀ (H' : Hp) (m1 : Nat) (v7 v8 v9 v10 v11 v12 v13 v14 v15 v16 v17 v18 v19 v20 v21 v22 v23 : Option V), Strm H' a c m1 → m1 ≤ m0 + 1000 → LamX.Tabs [(P, lq)] H' → D.nx [x0, some (.ref a), x2, some (iV many), some (.ref sp), some (.ref bd), some (.ref rl), v7, v8, v9, v10, v11, v12, v13, v14, v15, v16, v17, v18, v19, v20, v21, v22, v23] H') → t D [x0, some (.ref a), x2, some (iV many), some (.ref sp), some (.ref bd), some (.ref rl), x7, x8, x9, x10, x11, x12, x13, x14, x15, x16, x17, x18, x19, x20, x21, x22, x23] H := by
  obtain ⟨tD, hD, rD⟩ := cA2 C hr
  obtain ⟨T, Pl, Br, Bx, exm, Dm, TB, c__law_start, c__law_draw, c__law_steps, c__law_bad, c__law_rules, c__law_table, c__law_levels, c_break_run, c__law_same, c_keeps, c__law_walk, c__law_from, c_still_safe, c__law_is_closed, c_is_closed, c__law_mixed, c_is_integer, c_checked_steps, c_checked_stands⟩ := C
  have nd := sc_law.nd
  have hu := hu_of hr
  have hu65 := hu65_of hr
  obtain ⟨fi, FI, bi⟩ := ok_Play_init (w := w) (base := base) T Pl c_is_integer c_checked_steps c_checked_stands
  refine ⟨_, (pss_cons (ps_asg (pe_tup (pa_cons (pe_make Pl.mkr FI (hr.mono (by decide)) (by rfl) Pl.g bi .nil pass0 (pa_cons (pv 3) (pa_cons (pv 4) (pa_cons (pv 5) pa_nil)))) (pa_cons (pe_cal rfl c__law_table (hr.mono (by first | decide | (simp only [Nat.add_eq]; omega))) pass0 (pa_cons (pv 3) (pa_cons (pv 4) pa_nil))) pa_nil))) (pg_tup rfl (pgs_cons (pg_name (i := 7) nd rfl (by first | exact Or.inl rfl | exact Or.inr rfl)) (pgs_cons (pg_name (i := 8) nd rfl (by first | exact Or.inl rfl | exact Or.inr rfl)) pgs_nil))))
      hD), fun D H a c sp bd rl m0 many sts bad R x0 x2 x7 x8 x9 x10 x11 x12 x13 x14 x15 x16 x17 x18 x19 x20 x21 x22 x23 hT hm0 q0 => ?_⟩
  have hbl : bad.length ≤ 7 := Nat.le_trans (nodup_lt _ _ hT.bnd hT.blt) hT.seven
  have h7 := hT.seven
  refine ⟨_, rfl, _, rfl, _, rfl, fun px pdx hpx hpdx hne => ?_⟩
  have sI : Same H (L2.upd (L2.upd H pdx (.own px)) px (.ins (plC K) pdx [])) := Same.over (Same.new hpdx) hpx
  have eI : (L2.upd (L2.upd H pdx (.own px)) px (.ins (plC K) pdx [])) px = some (.ins (plC K) pdx []) := upd_same
  show sp_Play_init K w [.ref px, iV many, .ref sp, .ref bd] (L2.upd (L2.upd H pdx (.own px)) px (.ins (plC K) pdx [])) _ _
  generalize L2.upd (L2.upd H pdx (.own px)) px (.ins (plC K) pdx []) = H1 at sI eI
  refine ⟨px, pdx, sp, bd, many, sts, bad, rfl, eI, StepsAt.same (Same.trans hid_le sI) hT.steps, hT.ok, hT.pos, by omega, SqL.leq (Same.leq (Same.trans hid_le sI)) hT.bdl, hT.blt, hT.bnd, by omega, fun H2 keep hnew => ⟨rfl, ?_⟩⟩
  have s02 : Same H H2 := fun b o q => keep b o (ne_of_none q hpx) (sI b o q)
  have hT2 := hT.kp (Same.kp s02) (Strm.same s02 hT.strm)
  have hE : Ex [a, c] H2 := fun b hb => by
    obtain ⟨⟨la, ga⟩, lc, gc⟩ := hT2.strm.two
    simp only [List.mem_cons, List.not_mem_nil, or_false] at hb
    rcases hb with rfl | rfl
    · rw [ga]; exact fun z => nomatch z
    · rw [gc]; exact fun z => nomatch z
  have hp2 := hnew.under (Strm.same sI hT.strm) hT2.strm
  refine ⟨_, rfl, _, rfl, sp, [a, c], many, sts, rfl, hE, StepsAt.same hid_kpL hT2.steps, by omega, hT.ok.few, fun tb H3 s3 htbn htab => ?_⟩
  refine ⟨(by decide : 2 ≤ sizeLine), fun Tp hTp => ?_⟩
  refine ⟨Tp, _, rfl, SqT.of upd_same, rfl, _, _, rfl, _, _, rfl, rfl, ?_⟩
  have s4 : Same H3 (L2.upd H3 Tp (.tup [.ref px, .ref tb])) := Same.new hTp
  generalize L2.upd H3 Tp (.tup [.ref px, .ref tb]) = H4 at s4
  have hT4 := hT2.kp (Same.kp (Same.trans s3 s4)) (Strm.same (Same.trans s3 s4) hT2.strm)
  have hbars := steps_bars hT.steps
  refine rD D H4 a c px rl tb bd m0 many sts bad R x0 x2 (some (.ref sp)) x9 x10 x11 x12 x13 x14 x15 x16 x17 x18 x19 x20 x21 x22 x23 ⟨hT4.strm, PlayAt.same (Same.kp (Same.trans s3 s4)) hp2, ⟨hT.ok, hbars, hT.words, hT.pos, by omega, hT.blt, hT.bnd, by omega⟩, h7, ⟨LTab.leq (Same.leq (Same.trans hidL_kp (Same.kp s4))) htab, hT4.rll, hT.nm.few, hT.ok, hbars, hT.words, hT.pos, by omega⟩, hT4.bdl, hT.nm, hT4.tabs⟩ hm0 fun H' m1 v9 v10 v11 v12 v13 v14 v15 v16 v17 v18 v19 v20 v21 v22 v23 h1 h2 h3 => q0 H' m1 _ _ v9 v10 v11 v12 v13 v14 v15 v16 v17 v18 v19 v20 v21 v22 v23 h1 h2 h3

end
end FF
namespace FF
open PySem PySem.Spec PyProof.Rows L2
section
variable {w : World} {K : PySem.W.Frag} {mg : Str → Option Value} {base : Heap}

/-- a whole turn -/
theorem cA0 {P c0 fa : Addr} (C : LawC w K mg base P c0) {A : Around} {outer : List Env} {s : Shared} {H0 : Hp} {E : XK} (hr : Room 18 (lawA fa c0 A s)) : ∃ t : TS, PSs (lawX w K mg base fa c0 A outer s H0 E) (lawBody.drop 0) t ∧
    ∀ (D : Ends) (H : Hp) (a c : Addr) (m0 : Nat) (x0 x2 x3 x4 x5 x6 x7 x8 x9 x10 x11 x12 x13 x14 x15 x16 x17 x18 x19 x20 x21 x22 x23 : Option V), Strm H a c m0 → LamX.Tabs [(P, lq)] H → m0 + 3000 ≤ 1000000 →
      (∀ (H' : Hp) (m1 : Nat) (v3 v4 v5 v6 v7 v8 v9 v10 v11 v12 v13 v14 v15 v16 v17 v18 v19 v20 v21 v22 v23 : Option V), Strm H' a c m1 → m1 ≤ m0 + 2000 → LamX.Tabs [(P, lq)] H' → D.nx [x0, some (.ref a), x2, v3, v4, v5, v6, v7, v8, v9, v10, v11, v12, v13, v14, v15, v16, v17, v18, v19, v20, v21, v22, v23] H') → t D [x0, some (.ref a), x2, x3, x4, x5, x6, x7, x8, x9, x10, x11, x12, x13, x14, x15, x16, x17, x18, x19, x20, x21, x22, x23] H := by
  obtain ⟨tD, hD, rD⟩ := cA1 C hr
  obtain ⟨T, Pl, Br, Bx, exm, Dm, TB, c__law_start, c__law_draw, c__law_steps, c__law_bad, c__law_rules, c__law_table, c__law_levels, c_break_run, c__law_same, c_keeps, c__law_walk, c__law_from, c_still_safe, c__law_is_closed, c_is_closed, c__law_mixed, c_is_integer, c_checked_steps, c_checked_stands⟩ := C
  have nd := sc_law.nd
  have hu := hu_of hr
  have hu65 := hu65_of hr
  refine ⟨_, (pss_cons (ps_set (i := 3) nd rfl (by first | exact Or.inl rfl | exact Or.inr rfl) (pe_op op_add pe_int (pe_cal rfl c__law_draw (hr.mono (by first | decide | (simp only [Nat.add_eq]; omega))) pass0 (pa_cons (pv 1) (pa_cons pe_int pa_nil)))))
      (pss_cons (ps_asg (pe_tup (pa_cons (pe_cal rfl c__law_steps (hr.mono (by first | decide | (simp only [Nat.add_eq]; omega))) pass0 (pa_cons (pv 1) (pa_cons (pv 3) (pa_cons pe_int pa_nil)))) (pa_cons (pe_cal rfl c__law_bad (hr.mono (by first | decide | (simp only [Nat.add_eq]; omega))) pass0 (pa_cons (pv 1) (pa_cons (pv 3) pa_nil))) (pa_cons (pe_cal rfl c__law_rules (hr.mono (by first | decide | (simp only [Nat.add_eq]; omega))) pass0 (pa_cons (pv 1) pa_nil)) pa_nil)))) (pg_tup rfl (pgs_cons (pg_name (i := 4) nd rfl (by first | exact Or.inl rfl | exact Or.inr rfl)) (pgs_cons (pg_name (i := 5) nd rfl (by first | exact Or.inl rfl | exact Or.inr rfl)) (pgs_cons (pg_name (i := 6) nd rfl (by first | exact Or.inl rfl | exact Or.inr rfl)) pgs_nil)))))
      (pss_cons (ps_if (pt_cmpR op_eq (pe_cal rfl c__law_draw (hr.mono (by first | decide | (simp only [Nat.add_eq]; omega))) pass0 (pa_cons (pv 1) (pa_cons pe_int pa_nil))) pe_int (nomark _)) (pss_one (ps_set (i := 5) nd rfl (by first | exact Or.inl rfl | exact Or.inr rfl) (pe_op op_cat (pv 5) (pe_lst (pa_cons pe_int pa_nil))))) pss_nil)
      hD))), fun D H a c m0 x0 x2 x3 x4 x5 x6 x7 x8 x9 x10 x11 x12 x13 x14 x15 x16 x17 x18 x19 x20 x21 x22 x23 hS hT hm0 q0 => ?_⟩
  refine ⟨_, rfl, a, c, m0, 7, rfl, hS, by decide, by decide, by omega, fun d H1 hd k1 hS1 => ⟨_, _, rfl, rfl, ?_⟩⟩
  rw [show (fun i j : Int => V.int (i + j)) 1 (d : Int) = iV (d + 1) from congrArg V.int (by omega)]
  have hT1 := Tabs.nl (Kp.nl k1 hS) hT
  refine ⟨_, rfl, _, rfl, a, c, m0 + 1, d + 1, rfl, hS1, by omega, by omega, by omega, fun sp H2 sts m2 hsp hok hwd hm2 k2 hspn hS2 => ?_⟩
  have hT2 := Tabs.nl (Kp.nl k2 hS1) hT1
  refine ⟨_, rfl, _, rfl, a, c, m2, d + 1, rfl, hS2, by omega, by omega, by omega, fun bd H3 bad m3 hbd hbnd hblt hm3 k3 hbdn hS3 => ?_⟩
  have hT3 := Tabs.nl (Kp.nl k3 hS2) hT2
  refine ⟨_, rfl, a, c, m3, rfl, hS3, by omega, fun rl H4 R hrl hnm k4 hrln hS4 => ?_⟩
  have hT4 := Tabs.nl (Kp.nl k4 hS3) hT3
  obtain ⟨nba, nbc⟩ := hS2.ne hbdn
  obtain ⟨nra, nrc⟩ := hS3.ne hrln
  have hbd4 := k4.get nba nbc hbd
  refine ⟨(by decide : 3 ≤ sizeLine), fun Tp hTp => ?_⟩
  have s5 : Same H4 (L2.upd H4 Tp (.tup [.ref sp, .ref bd, .ref rl])) := Same.new hTp
  refine ⟨Tp, _, rfl, SqT.of upd_same, rfl, _, _, rfl, _, _, rfl, _, _, rfl, rfl, ?_⟩
  generalize L2.upd H4 Tp (.tup [.ref sp, .ref bd, .ref rl]) = H5 at s5
  have hS5 := Strm.same s5 hS4
  have hT5 : LamX.Tabs [(P, lq)] H5 := Tabs.nl (Kp.nl (Same.kp s5) hS4) hT4
  refine ⟨_, rfl, a, c, m3 + 6, 8, rfl, hS5, by decide, by decide, by omega, fun e H6 he k6 hS6 => ⟨rfl, _, rfl, ?_⟩⟩
  have hT6 := Tabs.nl (Kp.nl k6 hS5) hT5
  have k56 : Kp a c H4 H6 := Same.trans (Same.kp s5) k6
  have hsp6 : StepsAt K (hid a c H6) sp sts := StepsAt.same (Same.trans k3 (Same.trans k4 k56)) hsp
  have hbd6 := k56.get nba nbc hbd4
  have hrl6 := k56.get nra nrc hrl
  have fin : ∀ (H' : Hp) (bd' : Addr) (bad' : List Nat), Same H6 H' → SqL K (hid a c H') bd' (bad'.map iV) → bad'.Nodup → (∀ b ∈ bad', b < d + 1) → tD D [x0, some (.ref a), x2, some (iV (d + 1)), some (.ref sp), some (.ref bd'), some (.ref rl), x7, x8, x9, x10, x11, x12, x13, x14, x15, x16, x17, x18, x19, x20, x21, x22, x23] H' := fun H' bd' bad' s' h1 h2 h3 =>
    rD D H' a c sp bd' rl (m3 + 6 + 1) (d + 1) sts bad' R x0 x2 x7 x8 x9 x10 x11 x12 x13 x14 x15 x16 x17 x18 x19 x20 x21 x22 x23 ⟨Strm.same s' hS6, StepsAt.same (Same.kp s') hsp6, hok, hwd, by omega, by omega, h1, h2, h3, SqL.of (by rw [hid_of nra nrc]; exact s' _ _ hrl6), hnm, Tabs.nl (Kp.nl (Same.kp s') hS6) hT6⟩ (by omega) fun H2 m1 v7 v8 v9 v10 v11 v12 v13 v14 v15 v16 v17 v18 v19 v20 v21 v22 v23 h1 h2 h3 => q0 H2 m1 _ _ _ _ v7 v8 v9 v10 v11 v12 v13 v14 v15 v16 v17 v18 v19 v20 v21 v22 v23 h1 (by omega) h3
  by_cases h0 : e = 0
  · subst h0
    rw [decide_eq_true (show V.int ((0 : Nat) : Int) = V.int 0 from rfl)]
    refine ⟨_, rfl, (by decide : 1 ≤ sizeLine), fun p1 hp1 => ?_⟩
    have s7 : Same H6 (L2.upd H6 p1 (.lst [.int 0])) := Same.new hp1
    have ep1 : (L2.upd H6 p1 (.lst [.int 0])) p1 = some (.lst [.int 0]) := upd_same
    generalize L2.upd H6 p1 (.lst [.int 0]) = H7 at s7 ep1
    have hbl : bad.length ≤ 7 := Nat.le_trans (nodup_lt _ _ hbnd fun b hb => (hblt b hb).2) (by omega)
    refine ⟨bd, p1, _, _, rfl, rfl, s7 _ _ hbd6, ep1, by simp only [List.length_map, List.length_singleton]; exact Nat.le_of_lt (small1000 (by omega)), fun p2 hp2 => ?_⟩
    have s8 : Same H6 (L2.upd H7 p2 (.lst (bad.map iV ++ [.int 0]))) := Same.then s7 hp2
    have ep2 : (L2.upd H7 p2 (.lst (bad.map iV ++ [.int 0]))) p2 = some (.lst (bad.map iV ++ [.int 0])) := upd_same
    generalize L2.upd H7 p2 (.lst (bad.map iV ++ [.int 0])) = H8 at s8 ep2
    obtain ⟨n2a, n2c⟩ := (Strm.same s7 hS6).ne hp2
    refine fin H8 p2 (bad ++ [0]) s8 (SqL.of (by rw [hid_of n2a n2c, ep2, List.map_append]; rfl)) ?_ fun b hb => ?_
    · rw [List.nodup_append]
      refine ⟨hbnd, by simp, fun x hx y hy e => ?_⟩
      rw [List.mem_singleton.mp hy] at e
      have := (hblt x hx).1
      omega
    · rcases List.mem_append.mp hb with hb | hb
      · exact (hblt b hb).2
      · rw [List.mem_singleton.mp hb]
        exact Nat.succ_pos _
  · rw [decide_eq_false (fun z => h0 (by have := V.int.inj z; omega))]
    exact fin H6 bd bad (Same.refl _) (SqL.of (by rw [hid_of nba nbc]; exact hbd6)) hbnd fun b hb => (hblt b hb).2

end
end FF
namespace FF
open PySem PySem.Spec PyProof.Rows L2
section
variable {w : World} {K : PySem.W.Frag} {mg : Str → Option Value} {base : Heap}
def sp_law (K : PySem.W.Frag) (P : Addr) : Sp := fun vs H Q _ => ∃ (s : Addr) (ns : List Int), vs = [.ref s] ∧ SqL K H s (ns.map V.int) ∧ H P = some (.tbl #[]) ∧ ∀ H', Q (.bl true) H'

/-- law answers True -/
theorem ok_law {P cl fa : Addr} {fd : FuncData} (C : LawC w K mg base P cl) (F : FnP K "law" s_law fa fd) (hcl : He.codeOf K ("law", none) = cl) (hfa : He.fAd K ("law", none) = fa) : FnOk Pg w K mg base CX0 19 fa fd ["_law_script"] (sp_law K P) := by
  obtain ⟨oc, od, dV, kV, doc, pm, an, cdv, ct, osl, rfl, lk, hcd, _, _⟩ := F.ex
  obtain ⟨c0, rfl⟩ := He.codeIn_ref hcd
  have ec : c0 = cl := (He.codeOf_eq (p := ("law", none)) (by rw [hfa]; exact lk) rfl).symm.trans hcl
  subst ec
  have nd := sc_law.nd
  refine fn_of lk hcd sc_law (fun vs H Q E h => ?_) (fun A outer s H vs Q E hr h => ?_)
  · obtain ⟨s0, ns, rfl, _⟩ := h
    rfl
  · obtain ⟨tA, hA, rA⟩ := cA0 C (H0 := H) (E := E) (outer := outer) hr
    obtain ⟨T, Pl, Br, Bx, exm, Dm, TB, c__law_start, c__law_draw, c__law_steps, c__law_bad, c__law_rules, c__law_table, c__law_levels, c_break_run, c__law_same, c_keeps, c__law_walk, c__law_from, c_still_safe, c__law_is_closed, c_is_closed, c__law_mixed, c_is_integer, c_checked_steps, c_checked_stands⟩ := C
    obtain ⟨s0, ns, rfl, hs, hP, q⟩ := h
    refine ⟨_, PSs.nox (pss_cons (ps_set (i := 1) nd rfl (by first | exact Or.inl rfl | exact Or.inr rfl) (pe_cal rfl c__law_start (hr.mono (by first | decide | (simp only [Nat.add_eq]; omega))) pass0 (pa_cons (pv 0) pa_nil)))
      (pss_cons (ps_for PassesOwn.never rfl (pi_range1 (by rfl) T.n_range (pa_cons pe_int pa_nil)) (pg_name (i := 2) nd rfl (by first | exact Or.inl rfl | exact Or.inr rfl)) hA)
      (pss_one (ps_ret pe_bl)))), ?_⟩
    refine ⟨_, rfl, s0, ns, rfl, hs, fun a c H1 s1 ha hc hS => ?_⟩
    have hT : LamX.Tabs [(P, lq)] H1 := fun p hp => by
      rw [List.mem_singleton.mp hp]
      exact LamX.TabS.nil (s1 _ _ hP)
    refine ⟨6, rfl, by decide, by decide, ?_⟩
    refine for_it walk_range (fun b σ H5 => ∃ (m : Nat) (y0 y2 y3 y4 y5 y6 y7 y8 y9 y10 y11 y12 y13 y14 y15 y16 y17 y18 y19 y20 y21 y22 y23 : Option V), σ = [y0, some (.ref a), y2, y3, y4, y5, y6, y7, y8, y9, y10, y11, y12, y13, y14, y15, y16, y17, y18, y19, y20, y21, y22, y23] ∧ Strm H5 a c m ∧ m ≤ 2000 * b ∧ LamX.Tabs [(P, lq)] H5)
      ⟨0, _, _, _, _, _, _, _, _, _, _, _, _, _, _, _, _, _, _, _, _, _, _, _, rfl, hS, Nat.le_refl _, hT⟩ (fun _ _ _ _ _ => trivial) ?_ ?_
    · rintro b x σ H5x H5 hb ⟨m, y0, y2, y3, y4, y5, y6, y7, y8, y9, y10, y11, y12, y13, y14, y15, y16, y17, y18, y19, y20, y21, y22, y23, rfl, hS5, hm5, hT5⟩ ⟨rfl, ex⟩
      have hb6 : b < 6 := hb
      refine rA _ H5 a c m y0 _ y3 y4 y5 y6 y7 y8 y9 y10 y11 y12 y13 y14 y15 y16 y17 y18 y19 y20 y21 y22 y23 hS5 hT5 (by omega) fun H' m1 v3 v4 v5 v6 v7 v8 v9 v10 v11 v12 v13 v14 v15 v16 v17 v18 v19 v20 v21 v22 v23 h1 h2 h3 => ⟨m1, _, _, _, _, _, _, _, _, _, _, _, _, _, _, _, _, _, _, _, _, _, _, _, rfl, h1, by omega, h3⟩
    · rintro σ H5 ⟨m, y0, y2, y3, y4, y5, y6, y7, y8, y9, y10, y11, y12, y13, y14, y15, y16, y17, y18, y19, y20, y21, y22, y23, rfl, hS5, hm5, hT5⟩
      exact q H5

end
end FF
/-! from the head's facts to the law -/
namespace FF
open PySem PySem.Spec PyProof.Rows L2
theorem df_of {K : PySem.W.Frag} {h : Heap} {mg : Str → Option Value} {x : Str} {st : Stmt} (X : K.In h) (G : h.Ns mainGlobals mg) (d : ∃ fd, FnP K x st (He.ga K x) fd) (g : (He.Fa.glo x).ok K = true) : Df K mg x st := ⟨d, He.glo_ok X G g⟩
theorem tx_of {K : PySem.W.Frag} {h : Heap} {mg : Str → Option Value} (X : K.In h) (G : h.Ns mainGlobals mg) (c : He.SaysD fa fn K) : Tx K mg := ⟨He.free_ok X G (c.fact 49 (f := .free "len") rfl), He.free_ok X G (c.fact 50 (f := .free "isinstance") rfl), He.free_ok X G (c.fact 51 (f := .free "list") rfl), He.free_ok X G (c.fact 52 (f := .free "tuple") rfl), He.free_ok X G (c.fact 53 (f := .free "int") rfl), He.free_ok X G (c.fact 54 (f := .free "bool") rfl), He.free_ok X G (c.fact 55 (f := .free "str") rfl), He.free_ok X G (c.fact 56 (f := .free "dict") rfl), He.free_ok X G (c.fact 57 (f := .free "all") rfl), He.free_ok X G (c.fact 58 (f := .free "any") rfl), He.free_ok X G (c.fact 59 (f := .free "sorted") rfl), He.free_ok X G (c.fact 60 (f := .free "enumerate") rfl), He.free_ok X G (c.fact 61 (f := .free "range") rfl), He.free_ok X G (c.fact 62 (f := .free "zip") rfl), He.free_ok X G (c.fact 63 (f := .free "min") rfl), He.str_ok X G (c.fact 47 (f := .str "SMALL" "abcdefghijklmnopqrstuvwxyz") rfl), He.str_ok X G (c.fact 48 (f := .str "FIGURES" "0123456789") rfl)⟩
theorem pl_of {K : PySem.W.Frag} {h : Heap} {mg : Str → Option Value} (X : K.In h) (G : h.Ns mainGlobals mg) (c : He.SaysD fa fn K) : PlTx K mg := ⟨He.glo_ok X G (c.fact 37 (f := .glo "Play") rfl), He.cls_ok (c.fact 39 (f := .cls "Play") rfl), He.noat_ok (c.fact 40 (f := .noat "Play" "own_table") rfl), He.noat_ok (c.fact 41 (f := .noat "Play" "own_bad") rfl), He.mkr_ok (c.fact 43 (f := .mkr "Play") rfl), He.meth_ok (c.fact 42 (f := .meth "Play" "__len__") rfl), (c.def_ 13 (d := d_Play__init__) rfl), (c.def_ 14 (d := d_Play__len__) rfl)⟩
theorem br_of {K : PySem.W.Frag} {h : Heap} {mg : Str → Option Value} (X : K.In h) (G : h.Ns mainGlobals mg) (c : He.SaysD fa fn K) (m : ex K = true) : BrTx K mg ∧ XfC K (brC K) := by
  obtain ⟨m1, m2⟩ := He.ba m
  obtain ⟨m3, m4⟩ := He.ba m2
  obtain ⟨m5, m6⟩ := He.ba m4
  exact ⟨⟨He.glo_ok X G (c.fact 38 (f := .glo "BadRules") rfl), oexB_ok m1, of_decide_eq_true m5, of_decide_eq_true m6, He.noat_ok (c.fact 46 (f := .noat "BadRules" "index") rfl), (c.def_ 8 (d := d_BadRules__init__) rfl)⟩, xfB_ok m3⟩
theorem lawC_of {K : PySem.W.Frag} {h base : Heap} {w : World} {mg : Str → Option Value} {P c0 : Addr} (X : K.In h) (G : h.Ns mainGlobals mg) (c : He.SaysD fa fn K) (m : ex K = true) (TB : LamX.TabB base mg c0 P) : LawC w K mg base P c0 := by
  have T := tx_of X G c
  have Pl := pl_of X G c
  obtain ⟨Br, Bx⟩ := br_of X G c m
  have c_is_list := ok_is_list (w := w) (base := base) T (df_of X G (c.def_ 0 (d := d_is_list) rfl) (c.fact 0 (f := .glo "is_list") rfl)) 
  have c_is_integer := ok_is_integer (w := w) (base := base) T (df_of X G (c.def_ 1 (d := d_is_integer) rfl) (c.fact 1 (f := .glo "is_integer") rfl)) 
  have c_is_number := ok_is_number (w := w) (base := base) T (df_of X G (c.def_ 2 (d := d_is_number) rfl) (c.fact 2 (f := .glo "is_number") rfl)) c_is_integer
  have c_is_stand := ok_is_stand (w := w) (base := base) T (df_of X G (c.def_ 9 (d := d_is_stand) rfl) (c.fact 8 (f := .glo "is_stand") rfl)) c_is_number
  have c_is_name := ok_is_name (w := w) (base := base) T (df_of X G (c.def_ 3 (d := d_is_name) rfl) (c.fact 3 (f := .glo "is_name") rfl)) 
  have c_is_word := (ok_is_word (w := w) (base := base) T (df_of X G (c.def_ 4 (d := d_is_word) rfl) (c.fact 4 (f := .glo "is_word") rfl)) c_is_integer c_is_list) 3
  have c_as_word := (ok_as_word (w := w) (base := base) T (df_of X G (c.def_ 5 (d := d_as_word) rfl) (c.fact 5 (f := .glo "as_word") rfl)) c_is_list) 3
  have c_are_names := ok_are_names (w := w) (base := base) T (df_of X G (c.def_ 6 (d := d_are_names) rfl) (c.fact 6 (f := .glo "are_names") rfl)) c_is_list c_is_name
  have c_each_once := ok_each_once (w := w) (base := base) T (df_of X G (c.def_ 7 (d := d_each_once) rfl) (c.fact 7 (f := .glo "each_once") rfl)) 
  have c_can_be_done := ok_can_be_done (w := w) (base := base) T (df_of X G (c.def_ 16 (d := d_can_be_done) rfl) (c.fact 13 (f := .glo "can_be_done") rfl)) 
  have c_checked_stands := ok_checked_stands (w := w) (base := base) T (df_of X G (c.def_ 12 (d := d_checked_stands) rfl) (c.fact 11 (f := .glo "checked_stands") rfl)) c_is_list c_is_stand c_each_once
  have c_kept_step := ok_kept_step (w := w) (base := base) T (df_of X G (c.def_ 10 (d := d_kept_step) rfl) (c.fact 9 (f := .glo "kept_step") rfl)) c_is_list c_is_word c_is_stand c_are_names c_is_name c_as_word
  have c_checked_steps := ok_checked_steps (w := w) (base := base) T (df_of X G (c.def_ 11 (d := d_checked_steps) rfl) (c.fact 10 (f := .glo "checked_steps") rfl)) c_is_list c_kept_step
  have c_checked_rules := ok_checked_rules (w := w) (base := base) T Br (df_of X G (c.def_ 15 (d := d_checked_rules) rfl) (c.fact 12 (f := .glo "checked_rules") rfl)) c_is_list c_is_name
  have c_steps_under := ok_steps_under (w := w) (base := base) T Pl (df_of X G (c.def_ 17 (d := d_steps_under) rfl) (c.fact 14 (f := .glo "steps_under") rfl)) c_can_be_done
  have c_shortest_runs := ok_shortest_runs (w := w) (base := base) T (df_of X G (c.def_ 18 (d := d_shortest_runs) rfl) (c.fact 15 (f := .glo "shortest_runs") rfl)) 
  have c_break_run := ok_break_run (w := w) (base := base) T Pl (df_of X G (c.def_ 19 (d := d_break_run) rfl) (c.fact 16 (f := .glo "break_run") rfl)) c_checked_rules c_steps_under c_shortest_runs
  have c_keeps := ok_keeps (w := w) (base := base) T (df_of X G (c.def_ 20 (d := d_keeps) rfl) (c.fact 17 (f := .glo "keeps") rfl)) c_break_run
  have c_still_safe := ok_still_safe (w := w) (base := base) T Pl (df_of X G (c.def_ 21 (d := d_still_safe) rfl) (c.fact 18 (f := .glo "still_safe") rfl)) c_checked_rules c_steps_under
  have c_is_closed := ok_is_closed (w := w) (base := base) T Pl (df_of X G (c.def_ 22 (d := d_is_closed) rfl) (c.fact 19 (f := .glo "is_closed") rfl)) c_checked_rules c_steps_under c_is_list c_is_stand
  have c__law_draw := ok_draw (w := w) (base := base) T (df_of X G (c.def_ 24 (d := d__law_draw) rfl) (c.fact 21 (f := .glo "_law_draw") rfl)) 
  have c__law_start := ok_start (w := w) (base := base) T (df_of X G (c.def_ 23 (d := d__law_start) rfl) (c.fact 20 (f := .glo "_law_start") rfl)) 
  have c__law_pick := ok_pick (w := w) (base := base) T (df_of X G (c.def_ 25 (d := d__law_pick) rfl) (c.fact 22 (f := .glo "_law_pick") rfl)) c__law_draw
  have c__law_mixed := ok_mixed (w := w) (base := base) T (df_of X G (c.def_ 26 (d := d__law_mixed) rfl) (c.fact 23 (f := .glo "_law_mixed") rfl)) c__law_draw
  have c__law_word := ok_word (w := w) (base := base) T (df_of X G (c.def_ 28 (d := d__law_word) rfl) (c.fact 25 (f := .glo "_law_word") rfl)) c__law_pick
  have c__law_steps := ok_steps (w := w) (base := base) T (df_of X G (c.def_ 29 (d := d__law_steps) rfl) (c.fact 26 (f := .glo "_law_steps") rfl)) c__law_draw c__law_pick c__law_mixed c__law_word
  have c__law_bad := ok_bad (w := w) (base := base) T (df_of X G (c.def_ 30 (d := d__law_bad) rfl) (c.fact 27 (f := .glo "_law_bad") rfl)) c__law_draw
  have c__law_rules := ok_rules (w := w) (base := base) T (df_of X G (c.def_ 35 (d := d__law_rules) rfl) (c.fact 32 (f := .glo "_law_rules") rfl)) c__law_mixed c__law_draw
  have c__law_table := ok_table (w := w) (base := base) T (df_of X G (c.def_ 31 (d := d__law_table) rfl) (c.fact 28 (f := .glo "_law_table") rfl)) 
  have c__law_next := ok_next (w := w) (base := base) T (df_of X G (c.def_ 32 (d := d__law_next) rfl) (c.fact 29 (f := .glo "_law_next") rfl)) 
  have c__law_levels := ok_levels (w := w) (base := base) T (df_of X G (c.def_ 33 (d := d__law_levels) rfl) (c.fact 30 (f := .glo "_law_levels") rfl)) c__law_next
  have c__law_walk := ok_walk (w := w) (base := base) T (df_of X G (c.def_ 34 (d := d__law_walk) rfl) (c.fact 31 (f := .glo "_law_walk") rfl)) c__law_next
  have c__law_from := ok_from (w := w) (base := base) T (df_of X G (c.def_ 37 (d := d__law_from) rfl) (c.fact 34 (f := .glo "_law_from") rfl)) c__law_next
  have c__law_is_closed := ok_lclosed (w := w) (base := base) T (df_of X G (c.def_ 38 (d := d__law_is_closed) rfl) (c.fact 35 (f := .glo "_law_is_closed") rfl)) c__law_next
  have c__law_same := (ok_same (w := w) (base := base) T (df_of X G (c.def_ 27 (d := d__law_same) rfl) (c.fact 24 (f := .glo "_law_same") rfl)) ) 12
  exact ⟨T, Pl, Br, Bx, He.exm_ok (c.fact 44 (f := .exm "BadRules" "BadRules" true) rfl), (df_of X G (c.def_ 36 (d := d__law_met) rfl) (c.fact 33 (f := .glo "_law_met") rfl)), TB, c__law_start, c__law_draw, c__law_steps, c__law_bad, c__law_rules, c__law_table, c__law_levels, c_break_run, c__law_same, c_keeps, c__law_walk, c__law_from, c_still_safe, c__law_is_closed, c_is_closed, c__law_mixed, c_is_integer, c_checked_steps, c_checked_stands⟩
theorem lawAt {K : PySem.W.Frag} {h : Heap} {w : World} {mg : Str → Option Value} {f : Addr} (X : K.In h) (G : h.Ns mainGlobals mg) (g : mg ("law" : Str) = some (.ref f)) (cx : He.SaysX fa fn [] tf ex w h K) :
    LamX.LawAtS PySem.Challenge.rw_farfolder_k04_whole_keeping_and_closed_l w K CX0 19 63 "_law_script" mg f h := by
  have c : He.SaysD fa fn K := cx.t.d
  obtain ⟨fd, F⟩ := (c.def_ 39 (d := d_law) rfl)
  have e := g.symm.trans (He.glo_ok X G (c.fact 36 (f := .glo "law") rfl))
  cases e
  have b := FunD.bindsA (ps := ["_law_script"]) F fun _ _ _ _ _ _ us hl => match us, hl with | [_], _ => rfl
  have tl : (("law", none) : He.Defn) ∈ tf := List.mem_singleton.mpr rfl
  refine ⟨fd, [He.cT K ("law", none)], sp_law K (He.cT K ("law", none)).2, fun p hp => ?_, fun p hp => ?_, fun p hp => ?_, fun s v => b s [v] rfl, fun H a ns hl _ hT hS => ?_, fun base KB GB hT => ?_⟩
  · rw [List.mem_singleton.mp hp]
    exact cx.empty _ tl
  · rw [List.mem_singleton.mp hp]
    exact cx.out _ tl
  · rw [List.mem_singleton.mp hp]
    exact PySem.W.codeHd_of_K X (cx.hd _ tl)
  · exact ⟨a, ns, rfl, hS, hT _ (List.mem_singleton.mpr rfl), fun _ => rfl⟩
  · exact ok_law (lawC_of X G c cx.more (hT _ (List.mem_singleton.mpr rfl))) F rfl rfl
end FF
open PySem PySem.W PySem.Calls PyProof.Rows
set_option maxHeartbeats 0
theorem PySem.Challenge.cw_farfolder_k04_whole_keeping_and_closed_l_holds : PySem.Challenge.rw_farfolder_k04_whole_keeping_and_closed_l.Holds := by
  w_on; o_law
  refine HandSHeadRun.head_any (r := OpenLaw.row PySem.Challenge.rw_farfolder_k04_whole_keeping_and_closed_l) (q := view (OpenLaw.row PySem.Challenge.rw_farfolder_k04_whole_keeping_and_closed_l).prog [51]) (H := FF.hk) (ob := FF.ob) (M := 8000) (loose := FF.loose) (d := HandSHeadRun.topDef (OpenLaw.row PySem.Challenge.rw_farfolder_k04_whole_keeping_and_closed_l).prog 51) (kwd := []) FF.ob_eq
    (by kernel_rfl) (fun s => by kernel_rfl) FF.run (by kernel_rfl) (by kernel_rfl) (by kernel_rfl) (by rfl) (by first | assumption | decide +kernel) (by decide +kernel) ⟨rfl, rfl, rfl, rfl, rfl, by decide +kernel⟩ ?hw ?hc
  case hw => w_witness2
  case hc =>
    refine LamX.walk_ofTsE (l := PySem.Challenge.rw_farfolder_k04_whole_keeping_and_closed_l) (n := 63) (k := 19) (x := "_law_script") (CX := fun _ => L2.CX0) rfl (by decide) (by kernel_rfl) ⟨rfl, by decide, by decide⟩ ?F (fun _ _ _ _ _ z => z)
    intro w mg fa h Y G hmg0
    obtain ⟨K, KX, c⟩ := Y
    have hmg : mg ("law" : PySem.Str) = some (.ref fa) := by
      have e : (HandSHeadRun.topDef (OpenLaw.row PySem.Challenge.rw_farfolder_k04_whole_keeping_and_closed_l).prog 51).name = ("law" : PySem.Str) := by kernel_rfl
      rw [← e]
      exact hmg0
    exact ⟨K, KX, FF.lawAt KX G hmg c⟩
