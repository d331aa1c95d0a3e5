import PyProof.Rows.All
import Wide.All
import OpenK.AllK
import Wide.FinOn
import HandS.ForMost
import HandS.ForExc
import HandS.ExcInit
import HandS.Defaults
import HandS.Lambda
import HandS.Star
import HandS.CallSlots
import HandS.TryMany
import HandS.IsInst
import HandS.Flow
import HandS.Conv
import HandS.Deep
import HandS.TupAny
import HandS.DictComp
import HandS.HotCalls
import HandS.ExcField
import HandS.ExcIs
import HandS.Zip
import HandS.Codes
import HandS.SuiteRaise
import HandS.HeadWalk
import HandS.HeadHook4
import KE.KDictKeyed
import KE.KNest
import KE.KStateDown
import HandS.Head0
import HandS.Head1
import HandS.Head2
import HandS.Style
import KE.SortData
import KE.KDictSum
import KE.KDictCopyH
import PyProof.Transfer
import KE.KDictDisplayH
import KE.GoesEnumKw
import PySem.Challenge.RW_worldcalls_k80_what_are_no_steps
set_option Elab.async false
set_option linter.all false
set_option maxRecDepth 100000
/-! What a head looks at, ahead of all else. -/
namespace SL
open PySem PySem.Spec PyProof.Rows L2
/-- data: tuples by value, all that may change by its number in the store; gl: what the module's name stands for -/
inductive D where
  | non | bl (b : Bool) | int (i : Int) | str (x : Str) | ty (n : String) | gl (x : Str) | ref (n : Nat) | tup (ds : List D)
  deriving Inhabited
/-- the defs whose lambdas are made: the tables of their code objects -/
def LTn : List Str := ["law", "_law_by_task", "_law_sums_right", "_law_things_right", "_law_deep_right"]
def LT (K : PySem.W.Frag) : List (Addr × Str) := LTn.filterMap fun x => (PySem.W.tabIn K x).map fun q => (q.2, x ++ (".<locals>." : Str) ++ ("<lambda>" : Str))
structure IsTab where
  ins : List (Str × D × Bool)
  own : List (String × Str × Bool)
def IsTab.look (t : IsTab) (C : Str) (b : D) : Option Bool := match b with
  | .ty T => (t.ins.find? fun q => match q.2.1 with
    | .ty T' => q.1 = C && T' == T
    | _ => false).map (·.2.2)
  | .gl C' => (t.ins.find? fun q => match q.2.1 with
    | .gl C'' => q.1 = C && C'' = C'
    | _ => false).map (·.2.2)
  | _ => none
def clsVal (K : PySem.W.Frag) : D → Value
  | .ty T => .type T
  | .gl C => .ref (He.ga K C)
  | _ => .none
mutual
def dvB (K : PySem.W.Frag) : D → Value → Bool
  | .non, .none => true
  | .bl b, .bool c => b == c
  | .int i, .int j _ => decide (i = j)
  | .str x, .str y _ => decide (x = y)
  | .ty n, .type m => decide (n = m)
  | .gl x, .ref a => decide (a = He.ga K x)
  | .tup ds, .ref a => match K.lookup a with
    | some ⟨.type c, _, .seq its _, _⟩ => decide (c = "tuple") && (decide (its.size ≤ sizeLine) && dvsB K ds its.toList)
    | _ => false
  | _, _ => false
def dvsB (K : PySem.W.Frag) : List D → List Value → Bool
  | [], [] => true
  | d :: ds, v :: vs => dvB K d v && dvsB K ds vs
  | _, _ => false
end
def tabB (K : PySem.W.Frag) (x : Str) (kvs : List (Str × D)) : Bool := kvs.all fun q => match PySem.W.nsIn K (He.ga K x) q.1 with
  | some (some u) => dvB K q.2 u
  | _ => false
def eqOV (a b : Option (Option Value)) : Bool := decide (a = b)
def oexB (K : PySem.W.Frag) (C : Addr) : Bool := (match K.lookup C with
  | some ⟨.type c, _, .cls cd, sl⟩ => decide (c = "type") && (match cd.mro, sl.toList with
    | .ref C' :: bm, [_, _, _, _, some (.builtin n), _] => decide (C' = C) && (decide (n = "ValueError.__new__") && (!cd.hasDel && (cd.hasDict && PySem.HandSPX.refsVE bm)))
    | _, _ => false)
  | _ => false) && (eqOV (PySem.W.findIn K (.ref C) "__setattr__") (some (some (.builtin "object.__setattr__"))) && (decide (PySem.W.subIn K (.ref C) (.type "BaseException") = some true) && (decide (PySem.W.typeIn K (.ref C) = some (.type "type")) && PySem.W.keepIn K (.ref C))))
def weB (K : PySem.W.Frag) (B : Str) : Bool := eqOV (PySem.W.specialIn K (.ref (He.ga K B)) "__getattribute__") (some (some (.builtin "type.__getattribute__"))) && (PySem.W.readsIn K (He.ga K B) (.type "type") && (match PySem.W.findCls K (.ref (He.ga K B)) (.type "type") "__init__" with
  | some (.val (.builtin n)) => decide (n = "ValueError.__init__")
  | _ => false))
def mkbB (K : PySem.W.Frag) (C : Str) : Bool := PySem.W.makesIn K (He.ga K C) && (eqOV (PySem.W.findIn K (.ref (He.ga K C)) "__init__") (some (some (.builtin "object.__init__"))) && PySem.W.keepIn K (.ref (He.ga K C)))
def insB (K : PySem.W.Frag) (C : Str) : Bool := eqOV (PySem.W.findIn K (.ref (He.ga K C)) "__class__") (some (some (.builtin "object.__class__"))) && (eqOV (PySem.W.specialIn K (.builtin "object.__class__") "__get__") (some (some (.builtin "getset_descriptor.__get__"))) &&
  (decide (PySem.W.takesIn K (.builtin "object.__class__") = some true) && decide (PySem.W.mroIn K (He.ga K C) (.type "object") = some true)))
def isiB (K : PySem.W.Frag) (t : IsTab) : Bool := (t.ins.all fun q => insB K q.1 && decide (PySem.W.kitOne K (.ref (He.ga K q.1)) (clsVal K q.2.1) = some q.2.2)) && t.own.all fun q => decide (PySem.W.kitOne K (.type q.1) (.ref (He.ga K q.2.1)) = some q.2.2)
def iniB (K : PySem.W.Frag) (C : Str) : Bool := eqOV (PySem.W.findIn K (.ref (He.ga K C)) "__init__") (some (some (.ref (He.ma K (He.ga K C) "__init__")))) && decide (PySem.W.typeIn K (.ref (He.ma K (He.ga K C) "__init__")) = some (.type "function"))
def gldB (K : PySem.W.Frag) (x : Str) (d : D) : Bool := match PySem.W.nsIn K mainGlobals x with
  | some (some u) => dvB K d u
  | _ => false
def excCB (K : PySem.W.Frag) (D : Addr) : Bool := eqOV (PySem.W.findIn K (.ref D) "__getattribute__") (some (some (.builtin "BaseException.__getattribute__"))) && (eqOV (PySem.W.findIn K (.ref D) "__getattr__") (some none) && (decide (PySem.W.subIn K (.ref D) (.type "BaseException") = some true) && (PySem.W.hasDictIn K D &&
  (eqOV (PySem.W.findIn K (.ref D) "__class__") (some (some (.builtin "object.__class__"))) && (eqOV (PySem.W.specialIn K (.builtin "object.__class__") "__get__") (some (some (.builtin "getset_descriptor.__get__"))) && (decide (PySem.W.takesIn K (.builtin "object.__class__") = some true) && decide (PySem.W.mroIn K D (.type "object") = some true)))))))
def lamB (K : PySem.W.Frag) (x : Str) : Bool := LTn.contains x && ((PySem.W.tabIn K x).isSome && decide ((LT K).map (·.1)).Nodup)
end SL
set_option Elab.async false
set_option linter.all false
set_option maxRecDepth 100000
/-! A head's hook whose fragment is told by its addresses. -/
namespace SL
open PySem PySem.Spec PyProof.Rows L2 He
def obsZ (as : List Addr) (fa : List Fa) (fn : List DefD) (ts : List Tab) (tf : List Defn) (ex : PySem.W.Frag → Bool) (g : Addr → Option Obj) : AlX := (obsT fa fn ts (frT g as), ex (frT g as) && tabsB g tf (frT g as))
theorem saysZ_of {as : List Addr} {fa : List Fa} {fn : List DefD} {ts : List Tab} {tf : List Defn} {ex : PySem.W.Frag → Bool} {w : World} {h : Heap} (e : obsZ as fa fn ts tf ex h.get? = valX fn ts w) : SaysX fa fn ts tf ex w h (frT h.get? as) := by
  obtain ⟨x1, x2⟩ := Bool.and_eq_true_iff.mp (show (ex (frT h.get? as) && tabsB h.get? tf (frT h.get? as)) = true from congrArg Prod.snd e)
  have key : ∀ p ∈ tf, PySem.W.codeHdIn (frT h.get? as) (cT (frT h.get? as) p).1 (cT (frT h.get? as) p).2 = true ∧ ∃ o, h.get? (cT (frT h.get? as) p).2 = some o ∧ emptyTab o = true := fun p hp => by
    obtain ⟨y1, y2⟩ := Bool.and_eq_true_iff.mp (List.all_eq_true.mp x2 p hp)
    refine ⟨y1, ?_⟩
    cases q : h.get? (cT (frT h.get? as) p).2 with
    | some o => rw [q] at y2; exact ⟨o, rfl, y2⟩
    | none => rw [q] at y2; cases y2
  exact ⟨congrArg Prod.fst e, x1, fun p hp => (key p hp).1, fun p hp => let ⟨_, o, q, z⟩ := key p hp; frT_none q z, fun p hp => by
    obtain ⟨_, o, q, z⟩ := key p hp
    rw [q, emptyTab_eq z]⟩
def hookZ (as : List Addr) (fa : List Fa) (fn : List DefD) (ts : List Tab) (tf : List Defn) (ex : PySem.W.Frag → Bool) : PySem.W.Hook where
  α := AlX
  obs := fun s => obsZ as fa fn ts tf ex s.heap.get?
  val := fun w => valX fn ts w
  says := fun w h => ∃ K : PySem.W.Frag, K.In h ∧ SaysX fa fn ts tf ex w h K
  of := fun _ _ e => ⟨_, frT_in, saysZ_of e⟩
  keeps := fun _ _ _ ⟨K, hK, c⟩ k => ⟨K, PySem.W.Frag.In.keeps hK k, ⟨c.t, c.more, c.hd, c.out, fun p hp => k _ _ (c.empty p hp)⟩⟩
theorem obsZ_eq {as : List Addr} {fa : List Fa} {fn : List DefD} {ts : List Tab} {tf : List Defn} {ex : PySem.W.Frag → Bool} {g : Addr → Option Obj} {s : Shared} (h : ∀ a, g a = s.heap.get? a) : obsZ as fa fn ts tf ex g = (hookZ as fa fn ts tf ex).obs s := by
  rw [show g = s.heap.get? from funext h] <;> rfl
/-! ### a run's equation, part by part -/
section
open HandSHeadRun PySem.W
variable {r : OpenRow} {q : Program} {as : List Addr} {fa : List Fa} {fn : List DefD} {ts : List Tab} {tf : List Defn} {ex : Frag → Bool} {M : Nat} {loose : List PySem.Str} {w : World}
theorem runEq_parts (e1 : ∀ os, (endF (stepQ (denQ tabQ) r.prog w) M r.prog w os).map (fun s => looksF r.prog (boot_heap w.params) s.abs) = some true)
    (e2 : ∀ os, (endF (stepQ (denQ tabQ) r.prog w) M r.prog w os).map (fun s => seenQ q loose (importedModules r.prog.main.body) (fun s => xlAt q [] s && recOk r.toRowW.records s) s.abs) = some (openGood q loose))
    (e3 : ∀ os, (endF (stepQ (denQ tabQ) r.prog w) M r.prog w os).map (fun s => fa.all fun f => f.ok (frT (getT s) as)) = some true)
    (e4 : ∀ os, (endF (stepQ (denQ tabQ) r.prog w) M r.prog w os).map (fun s => ((fn.all fun d => d.ok (frT (getT s) as)), fn.map fun d => fnW (frT (getT s) as) d.at_)) = some (true, fn.map DefD.val))
    (e5 : ∀ os, (endF (stepQ (denQ tabQ) r.prog w) M r.prog w os).map (fun s => ((ts.map fun t => dicW (frT (getT s) as) (t.1 (frT (getT s) as))), ex (frT (getT s) as) && tabsB (getT s) tf (frT (getT s) as))) = some (ts.map fun t => some (keysIn w.params t.2), true)) :
    RunEq r q (hookZ as fa fn ts tf ex) (fun s => obsZ as fa fn ts tf ex (getT s)) M loose w := by
  intro os
  have h1 := e1 os
  have h2 := e2 os
  have h3 := e3 os
  have h4 := e4 os
  have h5 := e5 os
  clear e1 e2 e3 e4 e5
  generalize endF (stepQ (denQ tabQ) r.prog w) M r.prog w os = X at h1 h2 h3 h4 h5 ⊢
  cases X with
  | none => cases h1
  | some s =>
    have h1 : looksF r.prog (boot_heap w.params) s.abs = true := Option.some.inj h1
    have h2 : seenQ q loose (importedModules r.prog.main.body) (fun s => xlAt q [] s && recOk r.toRowW.records s) s.abs = openGood q loose := Option.some.inj h2
    have h3 : (fa.all fun f => f.ok (frT (getT s) as)) = true := Option.some.inj h3
    have h4 := Option.some.inj h4
    have h5 := Option.some.inj h5
    have h4a : (fn.all fun d => d.ok (frT (getT s) as)) = true := congrArg Prod.fst h4
    have h4b : (fn.map fun d => fnW (frT (getT s) as) d.at_) = fn.map DefD.val := congrArg Prod.snd h4
    have h5a : (ts.map fun t => dicW (frT (getT s) as) (t.1 (frT (getT s) as))) = ts.map fun t => some (keysIn w.params t.2) := congrArg Prod.fst h5
    have h5b : (ex (frT (getT s) as) && tabsB (getT s) tf (frT (getT s) as)) = true := congrArg Prod.snd h5
    have e : obsZ as fa fn ts tf ex (getT s) = valX fn ts w := by
      unfold obsZ obsT obsD valX valT valD
      rw [h3, h4a, h4b, h5a, h5b]
      rfl
    exact congrArg some (Prod.ext h1 (Prod.ext h2 e))
end
end SL
set_option Elab.async false
set_option linter.all false
set_option maxRecDepth 100000
set_option maxHeartbeats 0
namespace SG
open PySem PySem.Spec PyProof.Rows L2 SL
abbrev row : PySem.W.OpenRow := PySem.W.OpenLaw.row PySem.Challenge.rw_worldcalls_k80_what_are_no_steps
def top (i : Nat) : Stmt := row.prog.main.body.getD i (.Pass ⟨0, 0, 0, 0⟩)
def mth (s : Stmt) (j : Nat) : Stmt := (match s with
  | .ClassDef _ _ _ b _ _ _ _ _ _ _ => b
  | _ => []).getD j (.Pass ⟨0, 0, 0, 0⟩)
/-! the text -/
abbrev s_is_integer : Stmt := top 25
abbrev s_is_between : Stmt := top 26
abbrev s_is_name : Stmt := top 27
abbrev s_Kind___init__ : Stmt := mth (top 29) 0
abbrev s_Runtime_newest : Stmt := mth (top 30) 1
abbrev s_Runtime_table : Stmt := mth (top 30) 2
abbrev s_Runtime_add_world : Stmt := mth (top 30) 3
abbrev s_Runtime___init__ : Stmt := mth (top 30) 0
abbrev s_now : Stmt := top 31
abbrev s_world_of : Stmt := top 32
abbrev s_is_class : Stmt := top 35
abbrev s_check_class : Stmt := top 36
abbrev s_line_of : Stmt := top 37
abbrev s_known : Stmt := top 38
abbrev s_seen : Stmt := top 39
abbrev s_below : Stmt := top 40
abbrev s_all_below : Stmt := top 41
abbrev s_own_fields : Stmt := top 42
abbrev s_add_class : Stmt := top 43
abbrev s_classes : Stmt := top 44
abbrev s_Place___init__ : Stmt := mth (top 51) 0
abbrev s_is_signature : Stmt := top 52
abbrev s_indexes_within : Stmt := top 53
abbrev s_is_call_part : Stmt := top 54
abbrev s_is_new_part : Stmt := top 55
abbrev s_is_leaf_part : Stmt := top 56
abbrev s_is_valid_part : Stmt := top 57
abbrev s_places_within : Stmt := top 58
abbrev s_check_valid : Stmt := top 59
abbrev s_check_function : Stmt := top 61
abbrev s_check_signature : Stmt := top 62
abbrev s_define_in : Stmt := top 63
abbrev s_define : Stmt := top 64
abbrev s_methods : Stmt := top 66
abbrev s_signatures_of : Stmt := top 67
abbrev s_selected : Stmt := top 68
abbrev s_selected_methods : Stmt := top 68
abbrev s_is_value : Stmt := top 73
abbrev s_class_of : Stmt := top 74
abbrev s_seen_of : Stmt := top 75
abbrev s_Follower_entered : Stmt := mth (top 81) 1
abbrev s_Scope___init__ : Stmt := mth (top 82) 0
abbrev s_Frame___init__ : Stmt := mth (top 83) 0
abbrev s_Frame_next_at : Stmt := mth (top 83) 3
abbrev s_Frame_scope_at : Stmt := mth (top 83) 4
abbrev s_raise_again : Stmt := top 86
abbrev s_Machine___init__ : Stmt := mth (top 87) 0
abbrev s_Machine_leaf : Stmt := mth (top 87) 9
abbrev s_Machine_hand_up : Stmt := mth (top 87) 10
abbrev s_Machine_made_of : Stmt := mth (top 87) 12
abbrev s_Machine_enter : Stmt := mth (top 87) 7
abbrev s_Machine_go_on : Stmt := mth (top 87) 11
abbrev s_Machine_step : Stmt := mth (top 87) 8
abbrev s_Machine_begin : Stmt := mth (top 87) 1
abbrev s_Machine_go : Stmt := mth (top 87) 5
abbrev s_Machine_ending : Stmt := mth (top 87) 6
abbrev s_check_question : Stmt := top 91
abbrev s_check_steps : Stmt := top 92
abbrev s_world_for : Stmt := top 93
abbrev s_begin : Stmt := top 96
abbrev s_task_of : Stmt := top 97
abbrev s_advance : Stmt := top 98
abbrev s_result : Stmt := top 99
abbrev s_call : Stmt := top 95
abbrev s_asked_of : Stmt := top 106
abbrev s_compile_entry : Stmt := top 112
abbrev s_counts : Stmt := top 115
abbrev s_check_changes : Stmt := top 119
abbrev s_apply : Stmt := top 122
abbrev s_is_step : Stmt := top 125
abbrev s__law_no_steps : Stmt := top 135
abbrev s__law_begun : Stmt := top 137
abbrev s__law_well : Stmt := top 131
abbrev s__law_draw : Stmt := top 132
abbrev s__law_one : Stmt := top 133
abbrev s__law_steps : Stmt := top 136
abbrev s_performed : Stmt := top 128
abbrev s_do : Stmt := top 129
abbrev s__law_untouched : Stmt := top 138
/-- the keyword-only default of a def, if it is an object -/
def kwAt (K : PySem.W.Frag) (f x : Str) : Addr := match K.lookup (He.ga K f) with
  | some ⟨_, _, .func fd, _⟩ => (match fd.kwdefaults with
    | .ref D => (match PySem.W.nsIn K D x with
      | some (some (.ref a)) => a
      | _ => 0)
    | _ => 0)
  | _ => 0
def dd_is_integer : He.DefD := ⟨("is_integer", none), "is_integer", "is_integer", defArgs s_is_integer, defBody s_is_integer, defScope s_is_integer, [], []⟩
def dd_is_between : He.DefD := ⟨("is_between", none), "is_between", "is_between", defArgs s_is_between, defBody s_is_between, defScope s_is_between, [], []⟩
def dd_is_name : He.DefD := ⟨("is_name", none), "is_name", "is_name", defArgs s_is_name, defBody s_is_name, defScope s_is_name, [], []⟩
def dd_Kind___init__ : He.DefD := ⟨("Kind", some "__init__"), "__init__", "Kind.__init__", defArgs s_Kind___init__, defBody s_Kind___init__, defScope s_Kind___init__, [], []⟩
def dd_Runtime_newest : He.DefD := ⟨("Runtime", some "newest"), "newest", "Runtime.newest", defArgs s_Runtime_newest, defBody s_Runtime_newest, defScope s_Runtime_newest, [], []⟩
def dd_Runtime_table : He.DefD := ⟨("Runtime", some "table"), "table", "Runtime.table", defArgs s_Runtime_table, defBody s_Runtime_table, defScope s_Runtime_table, [], []⟩
def dd_Runtime_add_world : He.DefD := ⟨("Runtime", some "add_world"), "add_world", "Runtime.add_world", defArgs s_Runtime_add_world, defBody s_Runtime_add_world, defScope s_Runtime_add_world, [], []⟩
def dd_Runtime___init__ : He.DefD := ⟨("Runtime", some "__init__"), "__init__", "Runtime.__init__", defArgs s_Runtime___init__, defBody s_Runtime___init__, defScope s_Runtime___init__, [], []⟩
def dd_now : He.DefD := ⟨("now", none), "now", "now", defArgs s_now, defBody s_now, defScope s_now, [], []⟩
def dd_world_of : He.DefD := ⟨("world_of", none), "world_of", "world_of", defArgs s_world_of, defBody s_world_of, defScope s_world_of, [], []⟩
def dd_is_class : He.DefD := ⟨("is_class", none), "is_class", "is_class", defArgs s_is_class, defBody s_is_class, defScope s_is_class, [], []⟩
def dd_check_class : He.DefD := ⟨("check_class", none), "check_class", "check_class", defArgs s_check_class, defBody s_check_class, defScope s_check_class, [], []⟩
def dd_line_of : He.DefD := ⟨("line_of", none), "line_of", "line_of", defArgs s_line_of, defBody s_line_of, defScope s_line_of, [], []⟩
def dd_known : He.DefD := ⟨("known", none), "known", "known", defArgs s_known, defBody s_known, defScope s_known, [], []⟩
def dd_seen : He.DefD := ⟨("seen", none), "seen", "seen", defArgs s_seen, defBody s_seen, defScope s_seen, [], []⟩
def dd_below : He.DefD := ⟨("below", none), "below", "below", defArgs s_below, defBody s_below, defScope s_below, [], []⟩
def dd_all_below : He.DefD := ⟨("all_below", none), "all_below", "all_below", defArgs s_all_below, defBody s_all_below, defScope s_all_below, [], []⟩
def dd_own_fields : He.DefD := ⟨("own_fields", none), "own_fields", "own_fields", defArgs s_own_fields, defBody s_own_fields, defScope s_own_fields, [], []⟩
def dd_add_class : He.DefD := ⟨("add_class", none), "add_class", "add_class", defArgs s_add_class, defBody s_add_class, defScope s_add_class, [], [("fields", .adr fun K => kwAt K "add_class" "fields")]⟩
def dd_classes : He.DefD := ⟨("classes", none), "classes", "classes", defArgs s_classes, defBody s_classes, defScope s_classes, [], [("world", .non)]⟩
def dd_Place___init__ : He.DefD := ⟨("Place", some "__init__"), "__init__", "Place.__init__", defArgs s_Place___init__, defBody s_Place___init__, defScope s_Place___init__, [], []⟩
def dd_is_signature : He.DefD := ⟨("is_signature", none), "is_signature", "is_signature", defArgs s_is_signature, defBody s_is_signature, defScope s_is_signature, [], []⟩
def dd_indexes_within : He.DefD := ⟨("indexes_within", none), "indexes_within", "indexes_within", defArgs s_indexes_within, defBody s_indexes_within, defScope s_indexes_within, [], []⟩
def dd_is_call_part : He.DefD := ⟨("is_call_part", none), "is_call_part", "is_call_part", defArgs s_is_call_part, defBody s_is_call_part, defScope s_is_call_part, [], []⟩
def dd_is_new_part : He.DefD := ⟨("is_new_part", none), "is_new_part", "is_new_part", defArgs s_is_new_part, defBody s_is_new_part, defScope s_is_new_part, [], []⟩
def dd_is_leaf_part : He.DefD := ⟨("is_leaf_part", none), "is_leaf_part", "is_leaf_part", defArgs s_is_leaf_part, defBody s_is_leaf_part, defScope s_is_leaf_part, [], []⟩
def dd_is_valid_part : He.DefD := ⟨("is_valid_part", none), "is_valid_part", "is_valid_part", defArgs s_is_valid_part, defBody s_is_valid_part, defScope s_is_valid_part, [], []⟩
def dd_places_within : He.DefD := ⟨("places_within", none), "places_within", "places_within", defArgs s_places_within, defBody s_places_within, defScope s_places_within, [], []⟩
def dd_check_valid : He.DefD := ⟨("check_valid", none), "check_valid", "check_valid", defArgs s_check_valid, defBody s_check_valid, defScope s_check_valid, [], []⟩
def dd_check_function : He.DefD := ⟨("check_function", none), "check_function", "check_function", defArgs s_check_function, defBody s_check_function, defScope s_check_function, [], []⟩
def dd_check_signature : He.DefD := ⟨("check_signature", none), "check_signature", "check_signature", defArgs s_check_signature, defBody s_check_signature, defScope s_check_signature, [], []⟩
def dd_define_in : He.DefD := ⟨("define_in", none), "define_in", "define_in", defArgs s_define_in, defBody s_define_in, defScope s_define_in, [], []⟩
def dd_define : He.DefD := ⟨("define", none), "define", "define", defArgs s_define, defBody s_define, defScope s_define, [], []⟩
def dd_methods : He.DefD := ⟨("methods", none), "methods", "methods", defArgs s_methods, defBody s_methods, defScope s_methods, [], [("world", .non)]⟩
def dd_signatures_of : He.DefD := ⟨("signatures_of", none), "signatures_of", "signatures_of", defArgs s_signatures_of, defBody s_signatures_of, defScope s_signatures_of, [], []⟩
def dd_selected : He.DefD := ⟨("selected", none), "selected", "selected", defArgs s_selected, defBody s_selected, defScope s_selected, [], []⟩
def dd_selected_methods : He.DefD := ⟨("selected_methods", none), "selected", "selected", defArgs s_selected_methods, defBody s_selected_methods, defScope s_selected_methods, [], []⟩
def dd_is_value : He.DefD := ⟨("is_value", none), "is_value", "is_value", defArgs s_is_value, defBody s_is_value, defScope s_is_value, [], []⟩
def dd_class_of : He.DefD := ⟨("class_of", none), "class_of", "class_of", defArgs s_class_of, defBody s_class_of, defScope s_class_of, [], []⟩
def dd_seen_of : He.DefD := ⟨("seen_of", none), "seen_of", "seen_of", defArgs s_seen_of, defBody s_seen_of, defScope s_seen_of, [], []⟩
def dd_Follower_entered : He.DefD := ⟨("Follower", some "entered"), "entered", "Follower.entered", defArgs s_Follower_entered, defBody s_Follower_entered, defScope s_Follower_entered, [], []⟩
def dd_Scope___init__ : He.DefD := ⟨("Scope", some "__init__"), "__init__", "Scope.__init__", defArgs s_Scope___init__, defBody s_Scope___init__, defScope s_Scope___init__, [], []⟩
def dd_Frame___init__ : He.DefD := ⟨("Frame", some "__init__"), "__init__", "Frame.__init__", defArgs s_Frame___init__, defBody s_Frame___init__, defScope s_Frame___init__, [], []⟩
def dd_Frame_next_at : He.DefD := ⟨("Frame", some "next_at"), "next_at", "Frame.next_at", defArgs s_Frame_next_at, defBody s_Frame_next_at, defScope s_Frame_next_at, [], []⟩
def dd_Frame_scope_at : He.DefD := ⟨("Frame", some "scope_at"), "scope_at", "Frame.scope_at", defArgs s_Frame_scope_at, defBody s_Frame_scope_at, defScope s_Frame_scope_at, [], []⟩
def dd_raise_again : He.DefD := ⟨("raise_again", none), "raise_again", "raise_again", defArgs s_raise_again, defBody s_raise_again, defScope s_raise_again, [], []⟩
def dd_Machine___init__ : He.DefD := ⟨("Machine", some "__init__"), "__init__", "Machine.__init__", defArgs s_Machine___init__, defBody s_Machine___init__, defScope s_Machine___init__, [], []⟩
def dd_Machine_leaf : He.DefD := ⟨("Machine", some "leaf"), "leaf", "Machine.leaf", defArgs s_Machine_leaf, defBody s_Machine_leaf, defScope s_Machine_leaf, [], []⟩
def dd_Machine_hand_up : He.DefD := ⟨("Machine", some "hand_up"), "hand_up", "Machine.hand_up", defArgs s_Machine_hand_up, defBody s_Machine_hand_up, defScope s_Machine_hand_up, [], []⟩
def dd_Machine_made_of : He.DefD := ⟨("Machine", some "made_of"), "made_of", "Machine.made_of", defArgs s_Machine_made_of, defBody s_Machine_made_of, defScope s_Machine_made_of, [], []⟩
def dd_Machine_enter : He.DefD := ⟨("Machine", some "enter"), "enter", "Machine.enter", defArgs s_Machine_enter, defBody s_Machine_enter, defScope s_Machine_enter, [], []⟩
def dd_Machine_go_on : He.DefD := ⟨("Machine", some "go_on"), "go_on", "Machine.go_on", defArgs s_Machine_go_on, defBody s_Machine_go_on, defScope s_Machine_go_on, [], []⟩
def dd_Machine_step : He.DefD := ⟨("Machine", some "step"), "step", "Machine.step", defArgs s_Machine_step, defBody s_Machine_step, defScope s_Machine_step, [], []⟩
def dd_Machine_begin : He.DefD := ⟨("Machine", some "begin"), "begin", "Machine.begin", defArgs s_Machine_begin, defBody s_Machine_begin, defScope s_Machine_begin, [], []⟩
def dd_Machine_go : He.DefD := ⟨("Machine", some "go"), "go", "Machine.go", defArgs s_Machine_go, defBody s_Machine_go, defScope s_Machine_go, [], []⟩
def dd_Machine_ending : He.DefD := ⟨("Machine", some "ending"), "ending", "Machine.ending", defArgs s_Machine_ending, defBody s_Machine_ending, defScope s_Machine_ending, [], []⟩
def dd_check_question : He.DefD := ⟨("check_question", none), "check_question", "check_question", defArgs s_check_question, defBody s_check_question, defScope s_check_question, [], []⟩
def dd_check_steps : He.DefD := ⟨("check_steps", none), "check_steps", "check_steps", defArgs s_check_steps, defBody s_check_steps, defScope s_check_steps, [], []⟩
def dd_world_for : He.DefD := ⟨("world_for", none), "world_for", "world_for", defArgs s_world_for, defBody s_world_for, defScope s_world_for, [], []⟩
def dd_begin : He.DefD := ⟨("begin", none), "begin", "begin", defArgs s_begin, defBody s_begin, defScope s_begin, [], [("steps", .int 1000)]⟩
def dd_task_of : He.DefD := ⟨("task_of", none), "task_of", "task_of", defArgs s_task_of, defBody s_task_of, defScope s_task_of, [], []⟩
def dd_advance : He.DefD := ⟨("advance", none), "advance", "advance", defArgs s_advance, defBody s_advance, defScope s_advance, [], []⟩
def dd_result : He.DefD := ⟨("result", none), "result", "result", defArgs s_result, defBody s_result, defScope s_result, [], []⟩
def dd_call : He.DefD := ⟨("call", none), "call", "call", defArgs s_call, defBody s_call, defScope s_call, [], [("world", .non), ("steps", .int 1000)]⟩
def dd_asked_of : He.DefD := ⟨("asked_of", none), "asked_of", "asked_of", defArgs s_asked_of, defBody s_asked_of, defScope s_asked_of, [], []⟩
def dd_compile_entry : He.DefD := ⟨("compile_entry", none), "compile_entry", "compile_entry", defArgs s_compile_entry, defBody s_compile_entry, defScope s_compile_entry, [], [("world", .non)]⟩
def dd_counts : He.DefD := ⟨("counts", none), "counts", "counts", defArgs s_counts, defBody s_counts, defScope s_counts, [], []⟩
def dd_check_changes : He.DefD := ⟨("check_changes", none), "check_changes", "check_changes", defArgs s_check_changes, defBody s_check_changes, defScope s_check_changes, [], []⟩
def dd_apply : He.DefD := ⟨("apply", none), "apply", "apply", defArgs s_apply, defBody s_apply, defScope s_apply, [], []⟩
def dd_is_step : He.DefD := ⟨("is_step", none), "is_step", "is_step", defArgs s_is_step, defBody s_is_step, defScope s_is_step, [], []⟩
def dd__law_no_steps : He.DefD := ⟨("_law_no_steps", none), "_law_no_steps", "_law_no_steps", defArgs s__law_no_steps, defBody s__law_no_steps, defScope s__law_no_steps, [], []⟩
def dd__law_begun : He.DefD := ⟨("_law_begun", none), "_law_begun", "_law_begun", defArgs s__law_begun, defBody s__law_begun, defScope s__law_begun, [], []⟩
def dd__law_well : He.DefD := ⟨("_law_well", none), "_law_well", "_law_well", defArgs s__law_well, defBody s__law_well, defScope s__law_well, [], []⟩
def dd__law_draw : He.DefD := ⟨("_law_draw", none), "_law_draw", "_law_draw", defArgs s__law_draw, defBody s__law_draw, defScope s__law_draw, [], []⟩
def dd__law_one : He.DefD := ⟨("_law_one", none), "_law_one", "_law_one", defArgs s__law_one, defBody s__law_one, defScope s__law_one, [], []⟩
def dd__law_steps : He.DefD := ⟨("_law_steps", none), "_law_steps", "_law_steps", defArgs s__law_steps, defBody s__law_steps, defScope s__law_steps, [], []⟩
def dd_performed : He.DefD := ⟨("performed", none), "performed", "performed", defArgs s_performed, defBody s_performed, defScope s_performed, [], []⟩
def dd_do : He.DefD := ⟨("do", none), "do", "do", defArgs s_do, defBody s_do, defScope s_do, [], []⟩
def dd__law_untouched : He.DefD := ⟨("_law_untouched", none), "_law_untouched", "_law_untouched", defArgs s__law_untouched, defBody s__law_untouched, defScope s__law_untouched, [], []⟩
abbrev s_xNoStep : Stmt := mth (top 22) 0
def dd_xNoStep : He.DefD := ⟨("NoStep", some "__init__"), "__init__", "NoStep.__init__", defArgs s_xNoStep, defBody s_xNoStep, defScope s_xNoStep, [], []⟩
abbrev s_xNoFunction : Stmt := mth (top 10) 0
def dd_xNoFunction : He.DefD := ⟨("NoFunction", some "__init__"), "__init__", "NoFunction.__init__", defArgs s_xNoFunction, defBody s_xNoFunction, defScope s_xNoFunction, [], []⟩
abbrev s_xNoClass : Stmt := mth (top 4) 0
def dd_xNoClass : He.DefD := ⟨("NoClass", some "__init__"), "__init__", "NoClass.__init__", defArgs s_xNoClass, defBody s_xNoClass, defScope s_xNoClass, [], []⟩
abbrev s_xNoTask : Stmt := mth (top 19) 0
def dd_xNoTask : He.DefD := ⟨("NoTask", some "__init__"), "__init__", "NoTask.__init__", defArgs s_xNoTask, defBody s_xNoTask, defScope s_xNoTask, [], []⟩
abbrev s_xNoChange : Stmt := mth (top 21) 0
def dd_xNoChange : He.DefD := ⟨("NoChange", some "__init__"), "__init__", "NoChange.__init__", defArgs s_xNoChange, defBody s_xNoChange, defScope s_xNoChange, [], []⟩
abbrev s_xNoSteps : Stmt := mth (top 16) 0
def dd_xNoSteps : He.DefD := ⟨("NoSteps", some "__init__"), "__init__", "NoSteps.__init__", defArgs s_xNoSteps, defBody s_xNoSteps, defScope s_xNoSteps, [], []⟩
abbrev s_xNoValues : Stmt := mth (top 15) 0
def dd_xNoValues : He.DefD := ⟨("NoValues", some "__init__"), "__init__", "NoValues.__init__", defArgs s_xNoValues, defBody s_xNoValues, defScope s_xNoValues, [], []⟩
abbrev s_xNoSignature : Stmt := mth (top 11) 0
def dd_xNoSignature : He.DefD := ⟨("NoSignature", some "__init__"), "__init__", "NoSignature.__init__", defArgs s_xNoSignature, defBody s_xNoSignature, defScope s_xNoSignature, [], []⟩
abbrev s_change_error : Stmt := top 126
def dd_change_error : He.DefD := ⟨("change_error", none), "change_error", "change_error", defArgs s_change_error, defBody s_change_error, defScope s_change_error, [], []⟩
abbrev s_call_error : Stmt := top 127
def dd_call_error : He.DefD := ⟨("call_error", none), "call_error", "call_error", defArgs s_call_error, defBody s_call_error, defScope s_call_error, [], []⟩
abbrev s__law_said : Stmt := top 134
def dd__law_said : He.DefD := ⟨("_law_said", none), "_law_said", "_law_said", defArgs s__law_said, defBody s__law_said, defScope s__law_said, [], []⟩
abbrev s_law : Stmt := top 139
def dd_law : He.DefD := ⟨("law", none), "law", "law", defArgs s_law, defBody s_law, defScope s_law, [], []⟩
def fn : List He.DefD := [dd_is_integer, dd_is_between, dd_is_name, dd_Kind___init__, dd_Runtime_newest, dd_Runtime_table, dd_Runtime_add_world, dd_Runtime___init__, dd_now, dd_world_of, dd_is_class, dd_check_class, dd_line_of, dd_known, dd_seen, dd_below, dd_all_below, dd_own_fields, dd_add_class, dd_classes, dd_Place___init__, dd_is_signature, dd_indexes_within, dd_is_call_part, dd_is_new_part, dd_is_leaf_part, dd_is_valid_part, dd_places_within, dd_check_valid, dd_check_function, dd_check_signature, dd_define_in, dd_define, dd_methods, dd_signatures_of, dd_selected, dd_selected_methods, dd_is_value, dd_class_of, dd_seen_of, dd_Follower_entered, dd_Scope___init__, dd_Frame___init__, dd_Frame_next_at, dd_Frame_scope_at, dd_raise_again, dd_Machine___init__, dd_Machine_leaf, dd_Machine_hand_up, dd_Machine_made_of, dd_Machine_enter, dd_Machine_go_on, dd_Machine_step, dd_Machine_begin, dd_Machine_go, dd_Machine_ending, dd_check_question, dd_check_steps, dd_world_for, dd_begin, dd_task_of, dd_advance, dd_result, dd_call, dd_asked_of, dd_compile_entry, dd_counts, dd_check_changes, dd_apply, dd_is_step, dd__law_no_steps, dd__law_begun, dd__law_well, dd__law_draw, dd__law_one, dd__law_steps, dd_performed, dd_do, dd__law_untouched, dd_xNoStep, dd_xNoFunction, dd_xNoClass, dd_xNoTask, dd_xNoChange, dd_xNoSteps, dd_xNoValues, dd_xNoSignature, dd_change_error, dd_call_error, dd__law_said, dd_law]
def errs : List Str := ["NoFunction", "NoClass", "NoTask", "NoChange", "NoSteps", "NoValues", "NoSignature"]
def chT : List Str := ["NoClass", "Taken", "NoFunction", "NoSignature", "NoBody", "NotThere", "NoChange", "NoWorld"]
def caT : List Str := ["NoValues", "NoSteps", "NoMethod", "Ambiguous", "NotInt", "NoField", "NoFit", "TooDeep", "NoTask", "NotEnded"]
def kitT (K : PySem.W.Frag) : Bool := errs.all fun C => (chT ++ caT).all fun X => decide (PySem.W.kitOne K (.ref (He.ga K C)) (.ref (He.ga K X)) = some (decide (C = X)))
def excT (K : PySem.W.Frag) : Bool := errs.all fun C => excCB K (He.ga K C)
def hdT (K : PySem.W.Frag) : Bool := errs.all fun C => decide (PySem.W.exmOne K (.ref (He.ga K C)) (.ref (He.ga K "WorldError")) = some true)
def othT (K : PySem.W.Frag) : Bool := LTn.all fun x => decide (x = "law") || (PySem.W.tabIn K x).isNone
def exmT (K : PySem.W.Frag) (C : Str) : Bool := decide (PySem.W.exmOne K (.ref (He.ga K C)) (.ref (He.ga K C)) = some true)
def fa : List He.Fa := [.glo "WorldError", .glo "NoClass", .glo "NoField", .glo "NoFit", .glo "TooDeep", .glo "NoFunction", .glo "NoSignature", .glo "NoMethod", .glo "Ambiguous", .glo "NoValues", .glo "NoSteps", .glo "NotInt", .glo "TooLong", .glo "NoTask", .glo "NoChange", .glo "NoStep", .glo "is_integer", .glo "is_between", .glo "is_name", .glo "Kind", .glo "Runtime", .glo "now", .glo "world_of", .glo "is_class", .glo "check_class", .glo "line_of", .glo "known", .glo "seen", .glo "below", .glo "all_below", .glo "own_fields", .glo "add_class", .glo "classes", .glo "LENGTHS_bodies", .glo "WITHIN", .glo "Place", .glo "is_signature", .glo "indexes_within", .glo "is_call_part", .glo "is_new_part", .glo "is_leaf_part", .glo "is_valid_part", .glo "places_within", .glo "check_valid", .glo "check_function", .glo "check_signature", .glo "define_in", .glo "define", .glo "methods", .glo "signatures_of", .glo "selected_methods", .glo "Thing", .glo "is_value", .glo "class_of", .glo "seen_of", .glo "Follower", .glo "Scope", .glo "Frame", .glo "raise_again", .glo "Machine", .glo "check_question", .glo "check_steps", .glo "world_for", .glo "begin", .glo "task_of", .glo "result", .glo "asked_of", .glo "check_changes", .glo "PERFORMED", .glo "is_step", .glo "performed", .glo "_law_draw", .glo "_law_one", .glo "Taken", .glo "NoBody", .glo "NotThere", .glo "NoWorld", .glo "NotEnded", .glo "change_error", .glo "call_error", .glo "_law_said", .glo "law", .glo "counts", .glo "do", .glo "_law_untouched", .glo "_law_well", .glo "_law_begun", .glo "_law_no_steps", .glo "_law_steps", .free "len", .free "int", .free "isinstance", .free "all", .free "tuple", .free "sorted", .free "list", .free "dict", .free "bool", .free "str", .free "range", .free "enumerate", .free "zip", .cls "Kind", .cls "Runtime", .cls "Place", .cls "Follower", .cls "Scope", .cls "Frame", .cls "Machine", .cls "Look", .cls "Solution", .cls "Counter", .noat "Scope" "world", .noat "Solution" "world", .noat "Place" "path", .noat "Frame" "path", .noat "Scope" "given", .noat "Kind" "parent", .noat "Kind" "fields", .noat "Kind" "since", .noat "Runtime" "kinds", .noat "Runtime" "tables", .noat "Runtime" "entries", .noat "Runtime" "tasks", .noat "Runtime" "solutions", .noat "Runtime" "shapes", .noat "Runtime" "made", .noat "Place" "piece", .noat "Frame" "piece", .noat "Place" "count", .noat "Place" "names", .noat "Scope" "names", .noat "Scope" "entry", .noat "Frame" "scope", .noat "Frame" "row", .noat "Machine" "runtime", .noat "Look" "runtime", .noat "Solution" "runtime", .noat "Counter" "runtime", .noat "Machine" "most", .noat "Machine" "follower", .noat "Machine" "spent", .noat "Machine" "pending", .noat "Machine" "frames", .noat "Machine" "value", .noat "Machine" "error", .noat "Machine" "has_ended", .meth "Runtime" "newest", .meth "Runtime" "table", .meth "Runtime" "add_world", .meth "Follower" "entered", .meth "Frame" "next_at", .meth "Frame" "scope_at", .meth "Machine" "leaf", .meth "Machine" "hand_up", .meth "Machine" "made_of", .meth "Machine" "enter", .meth "Machine" "go_on", .meth "Machine" "step", .meth "Machine" "begin", .meth "Machine" "go", .meth "Machine" "ending", .mkr "Kind", .mkr "Runtime", .mkr "Place", .mkr "Scope", .mkr "Frame", .mkr "Machine"]
def tab_LENGTHS_bodies : List (Str × D) := [("int", .int 2), ("arg", .int 2), ("name", .int 2), ("let", .int 4), ("field", .int 3), ("add", .int 3), ("less", .int 3), ("is", .int 3), ("if", .int 4), ("define", .int 4)]
def tab_WITHIN : List (Str × D) := [("let", .tup [.int 2, .int 3]), ("field", .tup [.int 1]), ("add", .tup [.int 1, .int 2]), ("less", .tup [.int 1, .int 2]), ("is", .tup [.int 1]), ("if", .tup [.int 1, .int 2, .int 3]), ("define", .tup [.int 3])]
def tab_PERFORMED : List (Str × D) := [("add_class", .tup [.gl "add_class", .int 2, .tup [.str "fields"]]), ("define", .tup [.gl "define", .int 3, .tup []]), ("delete", .tup [.gl "delete", .int 2, .tup []]), ("call", .tup [.gl "call", .int 2, .tup [.str "world", .str "steps"]]), ("begin", .tup [.gl "begin", .int 2, .tup [.str "steps"]]), ("advance", .tup [.gl "advance", .int 2, .tup []]), ("result", .tup [.gl "result", .int 1, .tup []]), ("compile_entry", .tup [.gl "compile_entry", .int 2, .tup [.str "world"]]), ("run", .tup [.gl "run", .int 2, .tup [.str "world", .str "steps"]]), ("apply", .tup [.gl "apply", .int 1, .tup []])]
def ts : List He.Tab := [(fun K => He.ga K "LENGTHS_bodies", ["int", "arg", "name", "let", "field", "add", "less", "is", "if", "define"]), (fun K => He.ga K "WITHIN", ["let", "field", "add", "less", "is", "if", "define"]), (fun K => He.ga K "PERFORMED", ["add_class", "define", "delete", "call", "begin", "advance", "result", "compile_entry", "run", "apply"])]
def tabI : IsTab := ⟨[("Runtime", .ty "list", false)], [("NoneType", "NoMethod", false), ("NoneType", "Ambiguous", false), ("NoneType", "NoField", false), ("NoneType", "NoFit", false), ("NoneType", "NotInt", false), ("NoneType", "TooDeep", false), ("NoneType", "TooLong", false), ("int", "Thing", false)]⟩
def exL (K : PySem.W.Frag) : List Bool := [isiB K tabI, tabB K "LENGTHS_bodies" tab_LENGTHS_bodies, tabB K "WITHIN" tab_WITHIN, tabB K "PERFORMED" tab_PERFORMED, gldB K "LETTERS" (.str "abcdefghijklmnopqrstuvwxyz"), gldB K "MOST_FIELDS" (.int 3), gldB K "MOST_PARTS" (.int 24), gldB K "GREATEST" (.int 1000000000), gldB K "CALLS_bodies" (.tup [.str "call", .str "newest"]), gldB K "LEAVES" (.tup [.str "int", .str "arg", .str "name", .str "define"]), gldB K "PAIRS" (.tup [.str "add", .str "less"]), gldB K "CALLS_machine" (.tup [.str "call", .str "newest"]), gldB K "MOST_VALUES" (.int 2), gldB K "MOST_STEPS" (.int 100000), mkbB K "Follower", weB K "WorldError", kitT K, excT K, hdT K, exmT K "NoStep", exmT K "NoTask", xfB K (He.ga K "NoStep"), lamB K "law", othT K, oexB K (He.ga K "NoStep"), iniB K "NoStep", eqOV (PySem.W.findIn K (.ref (He.ga K "NoStep")) "at") (some none), oexB K (He.ga K "NoFunction"), iniB K "NoFunction", eqOV (PySem.W.findIn K (.ref (He.ga K "NoFunction")) "function") (some none), oexB K (He.ga K "NoClass"), iniB K "NoClass", eqOV (PySem.W.findIn K (.ref (He.ga K "NoClass")) "name") (some none), oexB K (He.ga K "NoTask"), iniB K "NoTask", eqOV (PySem.W.findIn K (.ref (He.ga K "NoTask")) "task") (some none), oexB K (He.ga K "NoChange"), iniB K "NoChange", eqOV (PySem.W.findIn K (.ref (He.ga K "NoChange")) "at") (some none), oexB K (He.ga K "NoSteps"), iniB K "NoSteps", eqOV (PySem.W.findIn K (.ref (He.ga K "NoSteps")) "steps") (some none), oexB K (He.ga K "NoValues"), iniB K "NoValues", eqOV (PySem.W.findIn K (.ref (He.ga K "NoValues")) "given") (some none), oexB K (He.ga K "NoSignature"), iniB K "NoSignature", eqOV (PySem.W.findIn K (.ref (He.ga K "NoSignature")) "signature") (some none), dvB K (.tup []) (.ref (kwAt K "add_class" "fields"))]
def ex (K : PySem.W.Frag) : Bool := (exL K).all id
end SG
set_option Elab.async false
set_option linter.all false
set_option maxRecDepth 100000
set_option maxHeartbeats 0
namespace SG
open PySem PySem.Spec PyProof.Rows L2 SL PySem.W HandSHeadRun
def names0 : List PySem.Str := ["_wall", "__name__", "WorldError", "NoWorld", "NoClass", "Taken", "NoField", "NoBody", "NoFit", "TooDeep", "NoFunction", "NoSignature", "NotThere", "NoMethod", "Ambiguous", "NoValues", "NoSteps", "NotInt", "TooLong", "NoTask", "NotEnded", "NoChange", "NoStep", "LETTERS", "is_integer", "is_between", "is_name", "Kind", "Runtime", "now"]
def names1 : List PySem.Str := ["world_of", "MOST_FIELDS", "is_class", "check_class", "line_of", "known", "seen", "below", "all_below", "own_fields", "add_class", "classes", "MOST_PARTS", "GREATEST", "LENGTHS_bodies", "WITHIN", "CALLS_bodies", "Place", "is_signature", "indexes_within", "is_call_part", "is_new_part", "is_leaf_part", "is_valid_part", "places_within", "check_valid", "check_function", "check_signature", "define_in", "define"]
def names2 : List PySem.Str := ["delete", "methods", "signatures_of", "selected", "selected_methods", "MOST_DEEP", "Thing", "is_value", "class_of", "seen_of", "made", "LEAVES", "PAIRS", "CALLS_machine", "Follower", "Scope", "Frame", "branch_at", "field_of", "raise_again", "Machine", "MOST_VALUES", "MOST_STEPS", "check_question", "check_steps", "world_for", "done", "call", "begin", "task_of"]
def names3 : List PySem.Str := ["advance", "result", "marked", "combined", "Look", "Solution", "solution_of", "asked_of", "KINDS", "site_of", "compiled", "number_of", "compile_entry", "Counter", "run", "counts", "LENGTHS_changes", "is_change", "check_changes", "make_change", "trial_of", "apply", "PERFORMED", "is_step", "change_error", "call_error", "performed", "do", "_law_well", "_law_draw"]
def names4 : List PySem.Str := ["_law_one", "_law_said", "_law_no_steps", "_law_steps", "_law_begun", "_law_untouched"]
def names : List PySem.Str := names0 ++ names1 ++ names2 ++ names3 ++ names4
abbrev qv : Program := PySem.W.view row.prog [139]
def asL0 : List Addr := [3, 968, 967, 470, 471, 31, 30, 850, 849, 334, 800, 291, 801, 580, 581, 365, 196, 272, 177, 70, 384, 773, 772, 422, 421, 364, 176, 333, 290, 271, 69, 195, 383, 692, 1437, 887, 819, 960, 791, 770]
def asL1 : List Addr := [847, 578, 461, 454, 447, 440, 419, 953, 381, 1191, 946, 939, 362, 331, 288, 269, 546, 932, 193, 174, 67, 927, 1436, 1190, 840, 965, 920, 894, 1235, 1288, 1271, 1416, 1207, 1270, 1124, 1035, 1028, 1021, 1014, 1006]
def asL2 : List Addr := [991, 984, 977, 1123, 873, 691, 539, 1430, 741, 734, 727, 1423, 687, 682, 667, 660, 653, 646, 639, 632, 625, 618, 611, 604, 597, 590, 400, 556, 555, 554, 1411, 537, 532, 527, 520, 515, 510, 503, 496, 489]
def asL3 : List Addr := [482, 1404, 1397, 405, 234, 393, 1390, 1383, 1376, 303, 1371, 1364, 253, 146, 1357, 1350, 158, 1325, 108, 1324, 1303, 2, 559, 558, 557, 547, 553, 959, 545, 536, 531, 526, 519, 514, 509, 502, 495, 488, 481, 952]
def asL4 : List Addr := [945, 404, 399, 392, 938, 931, 926, 919, 893, 886, 846, 839, 818, 790, 769, 577, 460, 538, 453, 446, 439, 418, 380, 361, 330, 287, 268, 192, 173, 66, 1344, 1342, 1429, 1422, 1415, 1410, 1403, 1396, 1389, 1382]
def asL5 : List Addr := [1375, 1370, 1363, 1356, 1349, 1345, 1343, 1341, 1339, 749, 748, 747, 1337, 1335, 1333, 716, 1331, 1329, 1327, 1323, 1302, 1287, 1340, 1228, 1234, 1206, 1338, 1336, 1034, 1027, 1020, 1007, 564, 1013, 999, 1005, 990, 983, 976, 1334]
def asL6 : List Addr := [872, 1332, 1330, 1328, 740, 733, 726, 1326, 686, 675, 681, 666, 659, 652, 346, 645, 315, 638, 631, 624, 617, 610, 215, 603, 596, 589, 964, 127, 563, 89, 562, 51, 561, 560]
def asL : List Addr := asL0 ++ asL1 ++ asL2 ++ asL3 ++ asL4 ++ asL5 ++ asL6
def tf : List He.Defn := [("law", none)]
abbrev hk : PySem.W.Hook := hookZ asL fa fn ts tf SG.ex
def ob (s : PySem.W.SharedT) : He.AlX := obsZ asL fa fn ts tf SG.ex (HandSHeadRun.getT s)
theorem ob_eq (s : PySem.W.SharedT) : ob s = hk.obs s.abs := obsZ_eq (HandSHeadRun.getT_eq s)
theorem r1F (w : World) (os : OsState) : (endF (stepQ (denQ tabQ) row.prog (w.withFollow "special-get-raises" false)) 13000 row.prog (w.withFollow "special-get-raises" false) os).map (fun s => looksF row.prog (boot_heap (w.withFollow "special-get-raises" false).params) s.abs) = some true := by kernel_rfl
theorem r2F (w : World) (os : OsState) : (endF (stepQ (denQ tabQ) row.prog (w.withFollow "special-get-raises" false)) 13000 row.prog (w.withFollow "special-get-raises" false) os).map (fun s => seenQ qv names (importedModules row.prog.main.body) (fun s => xlAt qv [] s && recOk row.toRowW.records s) s.abs) = some (openGood qv names) := by kernel_rfl
theorem r3F (w : World) (os : OsState) : (endF (stepQ (denQ tabQ) row.prog (w.withFollow "special-get-raises" false)) 13000 row.prog (w.withFollow "special-get-raises" false) os).map (fun s => fa.all fun f => f.ok (He.frT (getT s) asL)) = some true := by kernel_rfl
theorem r4F (w : World) (os : OsState) : (endF (stepQ (denQ tabQ) row.prog (w.withFollow "special-get-raises" false)) 13000 row.prog (w.withFollow "special-get-raises" false) os).map (fun s => ((fn.all fun d => d.ok (He.frT (getT s) asL)), fn.map fun d => He.fnW (He.frT (getT s) asL) d.at_)) = some (true, fn.map He.DefD.val) := by kernel_rfl
theorem r5F (w : World) (os : OsState) : (endF (stepQ (denQ tabQ) row.prog (w.withFollow "special-get-raises" false)) 13000 row.prog (w.withFollow "special-get-raises" false) os).map (fun s => ((ts.map fun t => He.dicW (He.frT (getT s) asL) (t.1 (He.frT (getT s) asL))), SG.ex (He.frT (getT s) asL) && He.tabsB (getT s) tf (He.frT (getT s) asL))) = some (ts.map fun t => some (He.keysIn (w.withFollow "special-get-raises" false).params t.2), true) := by kernel_rfl
theorem runF (w : World) : HandSHeadRun.RunEq row qv hk ob 13000 names (w.withFollow "special-get-raises" false) := runEq_parts (r1F w) (r2F w) (r3F w) (r4F w) (r5F w)
theorem r1T (w : World) (os : OsState) : (endF (stepQ (denQ tabQ) row.prog (w.withFollow "special-get-raises" true)) 13000 row.prog (w.withFollow "special-get-raises" true) os).map (fun s => looksF row.prog (boot_heap (w.withFollow "special-get-raises" true).params) s.abs) = some true := by kernel_rfl
theorem r2T (w : World) (os : OsState) : (endF (stepQ (denQ tabQ) row.prog (w.withFollow "special-get-raises" true)) 13000 row.prog (w.withFollow "special-get-raises" true) os).map (fun s => seenQ qv names (importedModules row.prog.main.body) (fun s => xlAt qv [] s && recOk row.toRowW.records s) s.abs) = some (openGood qv names) := by kernel_rfl
theorem r3T (w : World) (os : OsState) : (endF (stepQ (denQ tabQ) row.prog (w.withFollow "special-get-raises" true)) 13000 row.prog (w.withFollow "special-get-raises" true) os).map (fun s => fa.all fun f => f.ok (He.frT (getT s) asL)) = some true := by kernel_rfl
theorem r4T (w : World) (os : OsState) : (endF (stepQ (denQ tabQ) row.prog (w.withFollow "special-get-raises" true)) 13000 row.prog (w.withFollow "special-get-raises" true) os).map (fun s => ((fn.all fun d => d.ok (He.frT (getT s) asL)), fn.map fun d => He.fnW (He.frT (getT s) asL) d.at_)) = some (true, fn.map He.DefD.val) := by kernel_rfl
theorem r5T (w : World) (os : OsState) : (endF (stepQ (denQ tabQ) row.prog (w.withFollow "special-get-raises" true)) 13000 row.prog (w.withFollow "special-get-raises" true) os).map (fun s => ((ts.map fun t => He.dicW (He.frT (getT s) asL) (t.1 (He.frT (getT s) asL))), SG.ex (He.frT (getT s) asL) && He.tabsB (getT s) tf (He.frT (getT s) asL))) = some (ts.map fun t => some (He.keysIn (w.withFollow "special-get-raises" true).params t.2), true) := by kernel_rfl
theorem runT (w : World) : HandSHeadRun.RunEq row qv hk ob 13000 names (w.withFollow "special-get-raises" true) := runEq_parts (r1T w) (r2T w) (r3T w) (r4T w) (r5T w)
end SG
set_option Elab.async false
set_option linter.all false
set_option maxRecDepth 100000
/-! A small language of plain Lean functions over a list of objects, and what it says of the abstract heap. -/
namespace SL
open PySem PySem.Spec PyProof.Rows L2

/-- what stands in the store -/
inductive OB where
  | lst (ds : List D)
  | dK (kvs : List (Key × D))
  | dN (kvs : List (D × D))
  | ins (C : Str) (fs : List (Str × D))
  | lk (kvs : List (Key × D))
  | lkN (kvs : List (D × D))
  | raw (ks : List D)
  | lkR (ks : List D)
  | fz (ds : List D)
  deriving Inhabited
abbrev Sto := List OB

/-- what runs out of a function -/
inductive Res (α : Type) where
  | ok (a : α) (S : Sto)
  | err (C : Str) (fs : List (Str × D)) (S : Sto)
  | bad
def Res.bind {α β : Type} (r : Res α) (f : α → Sto → Res β) : Res β := match r with
  | .ok a S => f a S
  | .err C fs S => .err C fs S
  | .bad => .bad

/-! ### data and values -/
mutual
inductive DV (K : PySem.W.Frag) (R : List Addr) (H : Hp) : D → V → Prop
  | non : DV K R H .non .non
  | bl (b : Bool) : DV K R H (.bl b) (.bl b)
  | int (i : Int) : DV K R H (.int i) (.int i)
  | str (x : Str) : DV K R H (.str x) (.str x)
  | ty (n : String) : DV K R H (.ty n) (.ty n)
  | gl (x : Str) : DV K R H (.gl x) (.ref (He.ga K x))
  | ref {n : Nat} {a : Addr} : R[n]? = some a → DV K R H (.ref n) (.ref a)
  | tup {ds : List D} {a : Addr} {vs : List V} : SqT K H a vs → DVs K R H ds vs → DV K R H (.tup ds) (.ref a)
inductive DVs (K : PySem.W.Frag) (R : List Addr) (H : Hp) : List D → List V → Prop
  | nil : DVs K R H [] []
  | cons {d : D} {v : V} {ds : List D} {vs : List V} : DV K R H d v → DVs K R H ds vs → DVs K R H (d :: ds) (v :: vs)
end
section
variable {K : PySem.W.Frag} {R : List Addr} {H : Hp}
theorem DVs.length : ∀ {ds : List D} {vs : List V}, DVs K R H ds vs → ds.length = vs.length
  | _, _, .nil => rfl
  | _, _, .cons _ t => congrArg (· + 1) (DVs.length t)
theorem DVs.get : ∀ {ds : List D} {vs : List V} {i : Nat} {d : D}, DVs K R H ds vs → ds[i]? = some d → ∃ v, vs[i]? = some v ∧ DV K R H d v
  | _, _, _, _, .nil, e => by simp at e
  | _, _, 0, _, .cons r _, e => by simp at e; subst e; exact ⟨_, rfl, r⟩
  | _, _, i + 1, d, .cons _ t, e => by
    obtain ⟨v, h1, h2⟩ := DVs.get (i := i) (d := d) t (by simpa using e)
    exact ⟨v, by simpa using h1, h2⟩
theorem DVs.append : ∀ {ds es : List D} {vs ws : List V}, DVs K R H ds vs → DVs K R H es ws → DVs K R H (ds ++ es) (vs ++ ws)
  | _, _, _, _, .nil, s => s
  | _, _, _, _, .cons r t, s => .cons r (DVs.append t s)
theorem DVs.take : ∀ {ds : List D} {vs : List V} (n : Nat), DVs K R H ds vs → DVs K R H (ds.take n) (vs.take n)
  | _, _, 0, _ => .nil
  | _, _, _ + 1, .nil => .nil
  | _, _, n + 1, .cons r t => .cons r (DVs.take n t)
theorem DVs.drop : ∀ {ds : List D} {vs : List V} (n : Nat), DVs K R H ds vs → DVs K R H (ds.drop n) (vs.drop n)
  | _, _, 0, r => r
  | _, _, _ + 1, .nil => .nil
  | _, _, n + 1, .cons _ t => DVs.drop n t
theorem DVs.set {d : D} {v : V} (r : DV K R H d v) : ∀ {ds : List D} {vs : List V} (i : Nat), DVs K R H ds vs → DVs K R H (ds.set i d) (vs.set i v)
  | _, _, _, .nil => .nil
  | _, _, 0, .cons _ t => .cons r t
  | _, _, i + 1, .cons q t => .cons q (DVs.set r i t)
theorem DVs.reverse {ds : List D} {vs : List V} (r : DVs K R H ds vs) : DVs K R H ds.reverse vs.reverse := by
  have aux : ∀ {ds : List D} {vs : List V}, DVs K R H ds vs → ∀ {es : List D} {ws : List V}, DVs K R H es ws → DVs K R H (ds.reverse ++ es) (vs.reverse ++ ws) := by
    intro ds
    induction ds with
    | nil => intro vs r es ws s; cases r; exact s
    | cons d ds ih =>
      intro vs r es ws s
      cases r with
      | cons q t =>
        simp only [List.reverse_cons, List.append_assoc, List.cons_append, List.nil_append]
        exact ih t (.cons q s)
  have := aux r .nil
  simpa using this
theorem DVs.snoc {ds : List D} {vs : List V} {d : D} {v : V} (r : DVs K R H ds vs) (q : DV K R H d v) : DVs K R H (ds ++ [d]) (vs ++ [v]) := r.append (.cons q .nil)
end
mutual
theorem DV.mono {K : PySem.W.Frag} {R R' : List Addr} {H H' : Hp} (hR : ∀ (n : Nat) (a : Addr), R[n]? = some a → R'[n]? = some a) (hT : ∀ a vs, SqT K H a vs → SqT K H' a vs) : ∀ {d : D} {v : V}, DV K R H d v → DV K R' H' d v
  | _, _, .non => .non
  | _, _, .bl b => .bl b
  | _, _, .int i => .int i
  | _, _, .str x => .str x
  | _, _, .ty n => .ty n
  | _, _, .gl x => .gl x
  | _, _, .ref h => .ref (hR _ _ h)
  | _, _, .tup h t => .tup (hT _ _ h) (DVs.mono hR hT t)
theorem DVs.mono {K : PySem.W.Frag} {R R' : List Addr} {H H' : Hp} (hR : ∀ (n : Nat) (a : Addr), R[n]? = some a → R'[n]? = some a) (hT : ∀ a vs, SqT K H a vs → SqT K H' a vs) : ∀ {ds : List D} {vs : List V}, DVs K R H ds vs → DVs K R' H' ds vs
  | _, _, .nil => .nil
  | _, _, .cons r t => .cons (DV.mono hR hT r) (DVs.mono hR hT t)
end

/-! ### keys -/
mutual
def nkey : D → Option NestedKey
  | .non => some .none
  | .int i => some (.num i)
  | .str x => some (.text x)
  | .tup ds => (nkeys ds).map .tup
  | _ => none
def nkeys : List D → Option (List NestedKey)
  | [] => some []
  | d :: ds => match nkey d, nkeys ds with
    | some k, some ks => some (k :: ks)
    | _, _ => none
end
/-! ### the store and the heap -/
def PD {κ : Type} (K : PySem.W.Frag) (R : List Addr) (H : Hp) : List (κ × D) → List (κ × V) → Prop := Paired fun p q => p.1 = q.1 ∧ DV K R H p.2 q.2
/-- the object at a is known -/
def pinO (a : Addr) (o : Obj) : HO := .ext fun h => h.get? a = some o
/-- an entry of a dict whose keys are tuples -/
def EntN (w : World) (K : PySem.W.Frag) (R : List Addr) (H : Hp) (p : D × D) (x : NestedKey × Addr × Value) : Prop :=
  nkey p.1 = some x.1 ∧ x.1.depth ≤ 8 ∧ DV K R H p.1 (.ref x.2.1) ∧ ∃ v, DV K R H p.2 v ∧ RelV v x.2.2
section
variable (P : Program) (w : World)
def ObR (K : PySem.W.Frag) (R : List Addr) (H : Hp) (a : Addr) : OB → Prop
  | .lst ds => ∃ vs, H a = some (.lst vs) ∧ DVs K R H ds vs
  | .dK kvs => ∃ kvs', H a = some (.dK kvs') ∧ PD K R H kvs kvs'
  | .dN kvs => ∃ o es ep xs, H a = some (pinO a o) ∧ (a == sysModules) = false ∧ o.ExactDict ∧ o.data = .dict es ep ∧ es.toList = xs.map (entryOfKey (nestedKind P w)) ∧ (xs.map (·.1)).Nodup ∧ Paired (EntN w K R H) kvs xs
  | .ins C fs => ∃ dx fs', H a = some (.ins (He.ga K C) dx fs') ∧ PD K R H fs fs'
  | .lk kvs => ∃ o kvs', H a = some (.frz o (.dK kvs')) ∧ PD K R H kvs kvs'
  | .fz ds => ∃ o vs, H a = some (.frz o (.lst vs)) ∧ DVs K R H ds vs
  | .raw ks => ∃ o es ep vs, H a = some (pinO a o) ∧ (a == sysModules) = false ∧ o.ExactDict ∧ o.data = .dict es ep ∧ Vals vs (es.toList.map (·.key)) ∧ DVs K R H ks vs
  | .lkR ks => ∃ o es ep vs, H a = some (.frz o (pinO a o)) ∧ (a == sysModules) = false ∧ o.ExactDict ∧ o.data = .dict es ep ∧ Vals vs (es.toList.map (·.key)) ∧ DVs K R H ks vs
  | .lkN kvs => ∃ o es ep xs, H a = some (.frz o (pinO a o)) ∧ (a == sysModules) = false ∧ o.ExactDict ∧ o.data = .dict es ep ∧ es.toList = xs.map (entryOfKey (nestedKind P w)) ∧ (xs.map (·.1)).Nodup ∧ Paired (EntN w K R H) kvs xs
structure Rel (K : PySem.W.Frag) (R : List Addr) (S : Sto) (H : Hp) : Prop where
  len : R.length = S.length
  nd : R.Nodup
  tab : LamX.Tabs (LT K) H
  ob : ∀ (n : Nat) (a : Addr) (o : OB), R[n]? = some a → S[n]? = some o → ObR P w K R H a o
end
theorem Paired.imp {α β : Type} {F G : α → β → Prop} (f : ∀ a b, F a b → G a b) : ∀ {l : List α} {l' : List β}, Paired F l l' → Paired G l l'
  | _, _, .nil => .nil
  | _, _, .cons h t => .cons (f _ _ h) (Paired.imp f t)
section
variable {P : Program} {w : World} {K : PySem.W.Frag} {R R' : List Addr} {S : Sto} {H H' : Hp} {a : Addr} {o : OB}
theorem PD.mono {κ : Type} {l : List (κ × D)} {l' : List (κ × V)} (hR : ∀ (n : Nat) (a : Addr), R[n]? = some a → R'[n]? = some a) (hT : ∀ a vs, SqT K H a vs → SqT K H' a vs) (h : PD K R H l l') : PD K R' H' l l' :=
  Paired.imp (fun _ _ q => ⟨q.1, q.2.mono hR hT⟩) h
/-- an object stays what it is while its own entry stays -/
theorem ObR.mono (hR : ∀ (n : Nat) (a : Addr), R[n]? = some a → R'[n]? = some a) (hT : ∀ a vs, SqT K H a vs → SqT K H' a vs) (ha : H' a = H a) (h : ObR P w K R H a o) : ObR P w K R' H' a o := by
  cases o with
  | lst ds => obtain ⟨vs, e, q⟩ := h; exact ⟨vs, ha.trans e, q.mono hR hT⟩
  | dK kvs => obtain ⟨vs, e, q⟩ := h; exact ⟨vs, ha.trans e, q.mono hR hT⟩
  | dN kvs =>
    obtain ⟨o, es, ep, xs, e, z, c1, c2, c3, c4, q⟩ := h
    exact ⟨o, es, ep, xs, ha.trans e, z, c1, c2, c3, c4, Paired.imp (fun p x ⟨q1, q0, q2, v, q3, q4⟩ => ⟨q1, q0, q2.mono hR hT, v, q3.mono hR hT, q4⟩) q⟩
  | raw ks => obtain ⟨o, es, ep, vs, e, z, c1, c2, c3, q⟩ := h; exact ⟨o, es, ep, vs, ha.trans e, z, c1, c2, c3, q.mono hR hT⟩
  | lkR ks => obtain ⟨o, es, ep, vs, e, z, c1, c2, c3, q⟩ := h; exact ⟨o, es, ep, vs, ha.trans e, z, c1, c2, c3, q.mono hR hT⟩
  | lkN kvs =>
    obtain ⟨o, es, ep, xs, e, z, c1, c2, c3, c4, q⟩ := h
    exact ⟨o, es, ep, xs, ha.trans e, z, c1, c2, c3, c4, Paired.imp (fun p x ⟨q1, q0, q2, v, q3, q4⟩ => ⟨q1, q0, q2.mono hR hT, v, q3.mono hR hT, q4⟩) q⟩
  | ins C fs => obtain ⟨dx, fs', e, q⟩ := h; exact ⟨dx, fs', ha.trans e, q.mono hR hT⟩
  | lk kvs => obtain ⟨o, u, e, q⟩ := h; exact ⟨o, u, ha.trans e, q.mono hR hT⟩
  | fz ds => obtain ⟨o, u, e, q⟩ := h; exact ⟨o, u, ha.trans e, q.mono hR hT⟩
/-- never a tuple -/
def tupish : HO → Bool
  | .tup _ => true
  | .frz _ (.tup _) => true
  | .tbl _ => true
  | _ => false
theorem ObR.noTup (h : ObR P w K R H a o) : ∃ u, H a = some u ∧ tupish u = false := by
  cases o with
  | lst ds => obtain ⟨vs, e, q⟩ := h; exact ⟨_, e, rfl⟩
  | dK kvs => obtain ⟨vs, e, q⟩ := h; exact ⟨_, e, rfl⟩
  | dN kvs => obtain ⟨o, es, ep, xs, e, _⟩ := h; exact ⟨_, e, rfl⟩
  | ins C fs => obtain ⟨dx, fs', e, q⟩ := h; exact ⟨_, e, rfl⟩
  | lk kvs => obtain ⟨o, u, e, q⟩ := h; exact ⟨_, e, rfl⟩
  | fz ds => obtain ⟨o, u, e, q⟩ := h; exact ⟨_, e, rfl⟩
  | lkN kvs => obtain ⟨o, es, ep, xs, e, _⟩ := h; exact ⟨_, e, rfl⟩
  | raw ks => obtain ⟨o, es, ep, xs, e, _⟩ := h; exact ⟨_, e, rfl⟩
  | lkR ks => obtain ⟨o, es, ep, xs, e, _⟩ := h; exact ⟨_, e, rfl⟩
theorem Rel.at (r : Rel P w K R S H) {n : Nat} (hs : S[n]? = some o) : ∃ a, R[n]? = some a ∧ ObR P w K R H a o := by
  have hl : n < R.length := by rw [r.len]; exact (List.getElem?_eq_some_iff.mp hs).1
  exact ⟨R[n], List.getElem?_eq_getElem hl, r.ob n _ o (List.getElem?_eq_getElem hl) hs⟩
theorem Rel.isAt (r : Rel P w K R S H) (ha : a ∈ R) : ∃ u, H a = some u ∧ tupish u = false := by
  obtain ⟨n, hn⟩ := List.getElem?_of_mem ha
  have hl : n < S.length := by rw [← r.len]; exact (List.getElem?_eq_some_iff.mp hn).1
  exact (r.ob n a _ hn (List.getElem?_eq_getElem hl)).noTup
/-- all that is not in the store stays -/
structure Ext (R : List Addr) (H : Hp) (R' : List Addr) (H' : Hp) : Prop where
  pre : ∃ N, R' = R ++ N ∧ ∀ a ∈ N, ∀ o, H a = some o → ∃ ps, o = .tbl ps
  keep : ∀ a o, H a = some o → a ∉ R → (∀ ps, o ≠ .tbl ps) → H' a = some o
  frz : ∀ a o u, H a = some (.frz o u) → H' a = some (.frz o u)
theorem Ext.refl : Ext R H R H := ⟨⟨[], by simp, by simp⟩, fun _ _ h _ _ => h, fun _ _ _ h => h⟩
theorem Ext.trans {R1 R2 R3 : List Addr} {H1 H2 H3 : Hp} (a : Ext R1 H1 R2 H2) (b : Ext R2 H2 R3 H3) (st : ∀ x ∈ R2, ∃ o, H2 x = some o ∧ tupish o = false) : Ext R1 H1 R3 H3 := by
  obtain ⟨⟨N, e, hN⟩, k, f⟩ := a
  obtain ⟨⟨M, e', hM⟩, k', f'⟩ := b
  have nin : ∀ x o, x ∉ R1 → H1 x = Option.some o → (∀ ps, o ≠ .tbl ps) → x ∉ R2 := fun x o hx h nt z => by
    rw [e] at z
    rcases List.mem_append.mp z with z | z
    · exact hx z
    · obtain ⟨ps, q⟩ := hN x z o h
      exact nt ps q
  refine ⟨⟨N ++ M, by rw [e', e, List.append_assoc], fun x hx o q => ?_⟩, fun x o h hx nt => k' x o (k x o h hx nt) (nin x o hx h nt) nt, fun x o u h => f' x o u (f x o u h)⟩
  rcases List.mem_append.mp hx with z | z
  · exact hN x z o q
  · by_cases nt : ∃ ps, o = .tbl ps
    · exact nt
    · have nt' : ∀ ps, o ≠ .tbl ps := fun ps z => nt ⟨ps, z⟩
      by_cases nx : x ∈ R1
      · obtain ⟨n, hn⟩ := List.getElem?_of_mem nx
        have nd : x ∈ R2 := by rw [e]; exact List.mem_append_left _ nx
        obtain ⟨o', q', tu⟩ := st x nd
        obtain ⟨ps, e2⟩ := hM x z o' q'
        subst e2
        cases tu
      · exact hM x z o (k x o q nx nt')
theorem Ext.get (x : Ext R H R' H') {n : Nat} {b : Addr} (h : R[n]? = some b) : R'[n]? = some b := by
  obtain ⟨⟨N, e, _⟩, _⟩ := x
  rw [e, List.getElem?_append_left (List.getElem?_eq_some_iff.mp h).1]
  exact h
theorem Rel.sq (r : Rel P w K R S H) (x : Ext R H R' H') {b : Addr} {vs : List V} (h : SqT K H b vs) : SqT K H' b vs := by
  rcases h with h | h
  · refine .inl ?_
    have nb : b ∉ R := fun z => by
      obtain ⟨u, e, t⟩ := r.isAt z
      rcases h with h | ⟨o, h⟩
      · rw [e] at h; cases h; cases t
      · rw [e] at h; cases h; cases t
    rcases h with h | ⟨o, h⟩
    · exact .inl (x.keep _ _ h nb fun _ z => nomatch z)
    · exact .inr ⟨o, x.keep _ _ h nb fun _ z => nomatch z⟩
  · exact .inr h
theorem DV.ext {d : D} {v : V} (h : DV K R H d v) (r : Rel P w K R S H) (x : Ext R H R' H') : DV K R' H' d v := h.mono (fun _ _ e => x.get e) fun _ _ q => r.sq x q
theorem DVs.ext {d : List D} {v : List V} (h : DVs K R H d v) (r : Rel P w K R S H) (x : Ext R H R' H') : DVs K R' H' d v := h.mono (fun _ _ e => x.get e) fun _ _ q => r.sq x q
theorem Rel.some (r : Rel P w K R S H) : ∀ x ∈ R, ∃ o, H x = some o ∧ tupish o = false := fun x hx => r.isAt hx

/-! ### a fresh object that is not in the store; one that is; one that is written -/
theorem Ext.fresh {p : Addr} {u : HO} (hp : H p = none) : Ext R H R (upd H p u) := ⟨⟨[], by simp, by simp⟩, fun b o e _ _ => by rw [upd_ne (ne_of_none e hp)]; exact e, fun b o v e => by rw [upd_ne (ne_of_none e hp)]; exact e⟩
theorem Rel.fresh (r : Rel P w K R S H) {p : Addr} {u : HO} (hp : H p = none) : Rel P w K R S (upd H p u) := by
  have x : Ext R H R (upd H p u) := Ext.fresh hp
  refine ⟨r.len, r.nd, r.tab.ext fun b o e => by rw [upd_ne (ne_of_none e hp)]; exact e, fun n a o e1 e2 => (r.ob n a o e1 e2).mono (fun _ _ z => z) (fun _ _ q => r.sq x q) ?_⟩
  obtain ⟨v, e, _⟩ := (r.ob n a o e1 e2).noTup
  exact upd_ne (ne_of_none e hp)
theorem Ext.push {p : Addr} {u : HO} (hp : H p = none) : Ext R H (R ++ [p]) (upd H p u) := ⟨⟨[p], rfl, fun a ha o q => by rw [List.mem_singleton.mp ha, hp] at q; cases q⟩, fun b o e _ _ => by rw [upd_ne (ne_of_none e hp)]; exact e, fun b o v e => by rw [upd_ne (ne_of_none e hp)]; exact e⟩
theorem Rel.push (r : Rel P w K R S H) {p : Addr} {u : HO} (hp : H p = none) (new : ObR P w K (R ++ [p]) (upd H p u) p o) : Rel P w K (R ++ [p]) (S ++ [o]) (upd H p u) := by
  have x : Ext R H (R ++ [p]) (upd H p u) := Ext.push hp
  refine ⟨by simp [r.len], ?_, r.tab.ext fun b o e => by rw [upd_ne (ne_of_none e hp)]; exact e, fun n a o' e1 e2 => ?_⟩
  · rw [List.nodup_append]
    refine ⟨r.nd, by simp, fun a ha b hb => ?_⟩
    rw [List.mem_singleton.mp hb]
    obtain ⟨v, e, _⟩ := r.some a ha
    exact ne_of_none e hp
  · by_cases hn : n < R.length
    · rw [List.getElem?_append_left hn] at e1
      rw [List.getElem?_append_left (by rw [← r.len]; exact hn)] at e2
      refine (r.ob n a o' e1 e2).mono (fun _ _ z => x.get z) (fun _ _ q => r.sq x q) ?_
      obtain ⟨v, e, _⟩ := (r.ob n a o' e1 e2).noTup
      exact upd_ne (ne_of_none e hp)
    · have hn2 : R.length ≤ n := Nat.le_of_not_lt hn
      rw [List.getElem?_append_right hn2] at e1
      rw [List.getElem?_append_right (by rw [← r.len]; exact hn2)] at e2
      have h0 : n - R.length = 0 := by
        have := (List.getElem?_eq_some_iff.mp e1).1
        simp at this; omega
      rw [h0] at e1
      rw [← r.len, h0] at e2
      simp at e1 e2
      subst e1; subst e2
      exact new
def isFrz : HO → Bool
  | .frz _ _ => true
  | _ => false
def isTbl : HO → Bool
  | .tbl _ => true
  | _ => false
/-- it is no code object of a lambda -/
def notCode (v : HO) : Prop := ∀ c q, v ≠ LamX.CodeO c q
theorem Ext.write {p : Addr} {u v : HO} (hp : p ∈ R) (hv : H p = Option.some v) (nf : isFrz v = false) : Ext R H R (upd H p u) :=
  have ne : ∀ b, b ∉ R → b ≠ p := fun b hb z => hb (by rw [z]; exact hp)
  ⟨⟨[], by simp, by simp⟩, fun b o e hb _ => by rw [upd_ne (ne b hb)]; exact e, fun b o x e => by
    have ne : b ≠ p := fun z => by
      rw [z, hv] at e
      cases e
      cases nf
    rw [upd_ne ne]
    exact e⟩
theorem tabs_upd {T : List (Addr × Str)} {p : Addr} {u v : HO} (t : LamX.Tabs T H) (hv : H p = Option.some v) (nt : tupish v = false) (nc : notCode v) : LamX.Tabs T (upd H p u) := fun q hq => by
  obtain ⟨ps, h1, h2, h3⟩ := t q hq
  have n1 : q.1 ≠ p := fun z => by
    rw [z, hv] at h1
    cases h1
    cases nt
  refine ⟨ps, by rw [upd_ne n1]; exact h1, h2, fun pos cv hc => ?_⟩
  obtain ⟨c, e1, e2⟩ := h3 pos cv hc
  have n2 : c ≠ p := fun z => by
    rw [z, hv] at e2
    exact nc _ _ (Option.some.inj e2)
  exact ⟨c, e1, by rw [upd_ne n2]; exact e2⟩
theorem notCode_lst {vs : List V} : notCode (.lst vs) := fun c q z => by unfold LamX.CodeO at z; cases z
theorem notCode_dK {vs : List (Key × V)} : notCode (.dK vs) := fun c q z => by unfold LamX.CodeO at z; cases z
theorem notCode_ins {C dx : Addr} {fs : List (Str × V)} : notCode (.ins C dx fs) := fun c q z => by unfold LamX.CodeO at z; cases z
theorem notCode_frz {o : Obj} {u : HO} : notCode (.frz o u) := fun c q z => by unfold LamX.CodeO at z; cases z
theorem heap_sized : ∀ a : Nat, ∃ h : Heap, h.objs.size = a
  | 0 => ⟨{}, rfl⟩
  | a + 1 => by
    obtain ⟨h, e⟩ := heap_sized a
    exact ⟨h.push { cls := .none, data := .fields #[] }, by rw [Heap.size_push, e]⟩
theorem notCode_pinO {a : Addr} {o : Obj} {es : Array DictEntry} {ep : Nat} (hd : o.data = .dict es ep) : notCode (pinO a o) := fun c q z => by
  unfold LamX.CodeO pinO at z
  have z2 := HO.ext.inj z
  obtain ⟨h, e⟩ := heap_sized a
  have g : (h.push o).get? a = Option.some o := by
    rw [← e]
    refine Heap.get?_push_size h ?_
    obtain ⟨c0, d0, x0, s0⟩ := o
    cases hd
    rfl
  have z3 : (h.push o).get? a = Option.some o ↔ ∃ (oc : Obj) (vs : Array Value) (t : Tok), (h.push o).get? c = Option.some oc ∧ oc.data = .fields vs ∧ vs[1]? = Option.some (.str q t) := Iff.of_eq (congrFun z2 (h.push o))
  have z4 : (h.push o).get? a = Option.some o → ∀ h2 : Heap, h2.get? a = Option.some o → ∃ (oc : Obj) (vs : Array Value) (t : Tok), h2.get? c = Option.some oc ∧ oc.data = .fields vs ∧ vs[1]? = Option.some (.str q t) := fun _ h2 g2 => (Iff.of_eq (congrFun z2 h2)).mp g2
  by_cases hc : c = a
  · subst hc
    obtain ⟨oc, vs, t, g1, g2, _⟩ := z3.mp g
    rw [g] at g1; cases g1
    rw [hd] at g2; cases g2
  · obtain ⟨oc, vs, t, g1, g2, _⟩ := z4 g (({ objs := Array.replicate (a + 1) o } : Heap)) (by
      unfold Heap.get?
      simp only [Array.getElem?_replicate]
      rw [if_pos (Nat.lt_succ_self a)]
      obtain ⟨c0, d0, x0, s0⟩ := o
      cases hd
      rfl)
    unfold Heap.get? at g1
    simp only [Array.getElem?_replicate] at g1
    by_cases hl : c < a + 1
    · rw [if_pos hl] at g1
      obtain ⟨c0, d0, x0, s0⟩ := o
      cases hd
      cases g1
      cases g2
    · rw [if_neg hl] at g1
      cases g1
theorem ObR.notCode (h : ObR P w K R H a o) : ∃ u, H a = some u ∧ tupish u = false ∧ notCode u := by
  cases o with
  | lst ds => obtain ⟨vs, e, q⟩ := h; exact ⟨_, e, rfl, notCode_lst⟩
  | dK kvs => obtain ⟨vs, e, q⟩ := h; exact ⟨_, e, rfl, notCode_dK⟩
  | dN kvs => obtain ⟨o, es, ep, xs, e, _, _, hd, _⟩ := h; exact ⟨_, e, rfl, notCode_pinO hd⟩
  | ins C fs => obtain ⟨dx, fs', e, q⟩ := h; exact ⟨_, e, rfl, notCode_ins⟩
  | lk kvs => obtain ⟨o, u, e, q⟩ := h; exact ⟨_, e, rfl, notCode_frz⟩
  | fz ds => obtain ⟨o, u, e, q⟩ := h; exact ⟨_, e, rfl, notCode_frz⟩
  | lkN kvs => obtain ⟨o, es, ep, xs, e, _⟩ := h; exact ⟨_, e, rfl, notCode_frz⟩
  | raw ks => obtain ⟨o, es, ep, xs, e, _, _, hd, _⟩ := h; exact ⟨_, e, rfl, notCode_pinO hd⟩
  | lkR ks => obtain ⟨o, es, ep, xs, e, _⟩ := h; exact ⟨_, e, rfl, notCode_frz⟩
/-- a lambda is made: tables may grow, all else stays -/
theorem Rel.extN (r : Rel P w K R S H) (x : LamX.ExtN H H') (t : LamX.Tabs (LT K) H') : Rel P w K R S H' ∧ Ext R H R H' := by
  have e : Ext R H R H' := ⟨⟨[], by simp, by simp⟩, fun b o q _ nt => x b o q nt, fun b o u q => x b _ q fun _ z => nomatch z⟩
  refine ⟨⟨r.len, r.nd, t, fun n a o e1 e2 => (r.ob n a o e1 e2).mono (fun _ _ z => z) (fun _ _ q => r.sq e q) ?_⟩, e⟩
  obtain ⟨u, h1, h2⟩ := (r.ob n a o e1 e2).noTup
  rw [h1]
  exact x a u h1 fun ps z => by rw [z] at h2; cases h2
theorem Rel.tabs (r : Rel P w K R S H) {n : Nat} {p : Addr} {u : HO} (hn : R[n]? = Option.some p) : LamX.Tabs (LT K) (upd H p u) := by
  have hl : n < S.length := by rw [← r.len]; exact (List.getElem?_eq_some_iff.mp hn).1
  obtain ⟨v, h1, h2, h3⟩ := (r.ob n p _ hn (List.getElem?_eq_getElem hl)).notCode
  exact tabs_upd r.tab h1 h2 h3
theorem Rel.write (r : Rel P w K R S H) {n : Nat} {p : Addr} {u v : HO} (hn : R[n]? = Option.some p) (hv : H p = Option.some v) (nf : isFrz v = false) (new : ObR P w K R (upd H p u) p o) : Rel P w K R (S.set n o) (upd H p u) := by
  have x : Ext R H R (upd H p u) := Ext.write (List.mem_of_getElem? hn) hv nf
  have hl := (List.getElem?_eq_some_iff.mp hn).1
  refine ⟨by rw [List.length_set]; exact r.len, r.nd, r.tabs hn, fun m a o' e1 e2 => ?_⟩
  by_cases hm : m = n
  · subst hm
    rw [hn] at e1; cases e1
    rw [List.getElem?_set_self (by rw [← r.len]; exact hl)] at e2
    cases e2
    exact new
  · rw [List.getElem?_set_ne (fun z => hm z.symm)] at e2
    refine (r.ob m a o' e1 e2).mono (fun _ _ z => z) (fun _ _ q => r.sq x q) (upd_ne fun z => hm ?_)
    subst z
    have h1 := (List.getElem?_eq_some_iff.mp e1)
    have h2 := (List.getElem?_eq_some_iff.mp hn)
    obtain ⟨l1, q1⟩ := h1
    obtain ⟨l2, q2⟩ := h2
    exact (List.getElem_inj r.nd).mp (q1.trans q2.symm)
end
end SL
set_option Elab.async false
set_option linter.all false
set_option maxRecDepth 100000
namespace SL
open PySem PySem.Spec PyProof.Rows L2

/-! ### locals, what comes out -/
abbrev Loc := List (Option D)
def LocR (K : PySem.W.Frag) (R : List Addr) (H : Hp) (l : Loc) (σ : L2.St) : Prop :=
  l.length = σ.length ∧ ∀ (i : Nat) (d : D), l[i]? = some (some d) → ∃ v, σ[i]? = some (some v) ∧ DV K R H d v
section
variable {P : Program} {w : World} {K : PySem.W.Frag} {R R' R1 : List Addr} {S S' S1 : Sto} {H H' H1 : Hp} {a : Addr} {o : OB} {l : Loc} {σ : L2.St}
theorem LocR.ext (h : LocR K R H l σ) (r : Rel P w K R S H) (x : Ext R H R' H') : LocR K R' H' l σ :=
  ⟨h.1, fun i d e => let ⟨v, e', q⟩ := h.2 i d e; ⟨v, e', q.ext r x⟩⟩
theorem LocR.set (h : LocR K R H l σ) {i : Nat} {d : D} {v : V} (q : DV K R H d v) : LocR K R H (l.set i (some d)) (σ.set i (some v)) := by
  refine ⟨by simp [h.1], fun j e hj => ?_⟩
  by_cases hji : i = j
  · subst hji
    rw [List.getElem?_set] at hj ⊢
    simp only [if_true] at hj ⊢
    split at hj
    · rename_i hl
      cases hj
      rw [if_pos (by rw [← h.1]; exact hl)]
      exact ⟨v, rfl, q⟩
    · cases hj
  · rw [List.getElem?_set_ne hji] at hj ⊢
    exact h.2 j e hj
end
/-- an exception's own dict -/
def XdR (K : PySem.W.Frag) (R : List Addr) (H : Hp) (fs : List (Str × D)) (dx : Option Addr) : Prop :=
  fs = [] ∨ ∃ d fs', dx = some d ∧ H d = some (.xd fs') ∧ PD K R H fs fs'
section
variable (P : Program) (w : World) (K : PySem.W.Frag)
/-- what is wanted of a result -/
def OutP {α : Type} (m : Res α) (R : List Addr) (H : Hp) (W : Value → Option Addr → Hp → Prop) (Q : α → Sto → List Addr → Hp → Prop) : Prop := match m with
  | .ok a S' => ∀ R' H', Ext R H R' H' → Rel P w K R' S' H' → Q a S' R' H'
  | .err C fs S' => ∀ R' H' dx, Ext R H R' H' → Rel P w K R' S' H' → XdR K R' H' fs dx → W (.ref (He.ga K C)) dx H'
  | .bad => False
/-- what a def promises: what its function over the store gives -/
def spD (n : Nat) (m : List D → Sto → Res D) : Sp := fun vs H Q E => vs.length = n ∧ ∃ R S ds, Rel P w K R S H ∧ DVs K R H ds vs ∧ OutP P w K (m ds S) R H E fun d _ R' H' => ∀ v, DV K R' H' d v → Q v H'
end
section
variable (X : Cx)
abbrev RelX (R : List Addr) (S : Sto) (H : Hp) : Prop := Rel X.prog X.w X.K R S H
abbrev Out {α : Type} (m : Res α) (R : List Addr) (H : Hp) (W : Value → Option Addr → Hp → Prop) (Q : α → Sto → List Addr → Hp → Prop) : Prop := OutP X.prog X.w X.K m R H W Q
def OutO {α : Type} (m : Option (α × Sto)) (R : List Addr) (H : Hp) (Q : α → Sto → List Addr → Hp → Prop) : Prop := match m with
  | some (a, S') => ∀ R' H', Ext R H R' H' → RelX X R' S' H' → Q a S' R' H'
  | none => False
end
/-- an operation by values that raises nothing -/
abbrev Op1 := D → Sto → Option (D × Sto)
abbrev Op2 := D → D → Sto → Option (D × Sto)
abbrev OpN := List D → Sto → Option (D × Sto)
def ofO {α : Type} : Option (α × Sto) → Res α
  | some (a, S) => .ok a S
  | none => .bad
section
variable {X : Cx} {α β : Type} {R R' R1 : List Addr} {S S' S1 : Sto} {H H' H1 : Hp} {W : Value → Option Addr → Hp → Prop}
theorem Out.bind {r : Res α} {f : α → Sto → Res β} {Q : β → Sto → List Addr → Hp → Prop} (h : Out X (r.bind f) R H W Q) : Out X r R H W fun a S1 R1 H1 => Out X (f a S1) R1 H1 W Q := by
  cases r with
  | bad => exact h
  | err C fs S1 => exact h
  | ok a S1 =>
    intro R1 H1 x1 r1
    have h' : Out X (f a S1) R H W Q := h
    cases e : f a S1 with
    | bad => rw [e] at h'; exact h'
    | err C fs S2 =>
      rw [e] at h'
      exact fun R2 H2 dx x2 r2 q => h' R2 H2 dx (x1.trans x2 r1.some) r2 q
    | ok b S2 =>
      rw [e] at h'
      exact fun R2 H2 x2 r2 => h' R2 H2 (x1.trans x2 r1.some) r2
theorem Out.imp {r : Res α} {Q Q' : α → Sto → List Addr → Hp → Prop} (h : Out X r R H W Q) (f : ∀ a S1 R1 H1, Ext R H R1 H1 → RelX X R1 S1 H1 → Q a S1 R1 H1 → Q' a S1 R1 H1) : Out X r R H W Q' := by
  cases r with
  | bad => exact h
  | err C fs S1 => exact h
  | ok a S1 => exact fun R1 H1 x1 r1 => f a S1 R1 H1 x1 r1 (h R1 H1 x1 r1)
theorem Out.impW {r : Res α} {W' : Value → Option Addr → Hp → Prop} {Q Q' : α → Sto → List Addr → Hp → Prop} (h : Out X r R H W Q) (f : ∀ a S1 R1 H1, Ext R H R1 H1 → RelX X R1 S1 H1 → Q a S1 R1 H1 → Q' a S1 R1 H1) (g : ∀ c d H', W c d H' → W' c d H') : Out X r R H W' Q' := by
  cases r with
  | bad => exact h
  | err C fs S1 => exact fun R1 H1 dx x1 r1 q => g _ _ _ (h R1 H1 dx x1 r1 q)
  | ok a S1 => exact fun R1 H1 x1 r1 => f a S1 R1 H1 x1 r1 (h R1 H1 x1 r1)
theorem Out.shift {r : Res α} {Q : α → Sto → List Addr → Hp → Prop} (h : Out X r R H W Q) (x : Ext R H R' H') (st : ∀ a ∈ R', ∃ o, H' a = some o ∧ tupish o = false) : Out X r R' H' W Q := by
  cases r with
  | bad => exact h
  | err C fs S1 => exact fun R2 H2 dx x2 r2 q => h R2 H2 dx (x.trans x2 st) r2 q
  | ok a S1 => exact fun R2 H2 x2 r2 => h R2 H2 (x.trans x2 st) r2
theorem Out.ofO {r : Option (α × Sto)} {Q : α → Sto → List Addr → Hp → Prop} (h : Out X (ofO r) R H W Q) : OutO X r R H Q := by
  cases r with
  | none => exact h
  | some p => exact h
theorem Out.pure {a : α} {Q : α → Sto → List Addr → Hp → Prop} (h : Out X (.ok a S) R H W Q) (r : RelX X R S H) : Q a S R H := h R H .refl r
theorem OutO.pure {a : α} {Q : α → Sto → List Addr → Hp → Prop} (h : OutO X (some (a, S)) R H Q) (r : RelX X R S H) : Q a S R H := h R H .refl r
end

/-! ### the judgements -/
abbrev ME := Loc → Sto → Res D
abbrev MT := Loc → Sto → Res Bool
abbrev MA := Loc → Sto → Res (List D)
inductive Fl where
  | nx | bk | ct | rt (d : D)
/-- what runs out of a statement: how it goes on, the locals -/
abbrev MS := Loc → Sto → Res (Fl × Loc)
section
variable (X : Cx)
def liftE (m : ME) (W : WX) : TE := fun σ H Q => ∃ R S l, RelX X R S H ∧ LocR X.K R H l σ ∧ Out X (m l S) R H (fun c d H' => W c d σ H') fun d _ R' H' => ∀ v, DV X.K R' H' d v → Q v H'
def liftT (m : MT) (W : WX) : TT := fun σ H Q => ∃ R S l, RelX X R S H ∧ LocR X.K R H l σ ∧ Out X (m l S) R H (fun c d H' => W c d σ H') fun b _ _ H' => Q b H'
def liftA (m : MA) (W : WX) : TA := fun σ H Q => ∃ R S l, RelX X R S H ∧ LocR X.K R H l σ ∧ Out X (m l S) R H (fun c d H' => W c d σ H') fun ds _ R' H' => ∀ vs, DVs X.K R' H' ds vs → Q vs H'
def EndF (Dn : Ends) (R : List Addr) (H : Hp) (σ : L2.St) : Fl → Prop
  | .nx => Dn.nx σ H
  | .bk => Dn.bk σ H
  | .ct => Dn.ct σ H
  | .rt d => ∀ v, DV X.K R H d v → Dn.rt v H
/-- the slots of the frame at a raise inside a statement are not told: a try holds one call alone -/
def liftS (m : MS) (W : WX) : TS := fun Dn σ H => ∃ R S l, RelX X R S H ∧ LocR X.K R H l σ ∧ Out X (m l S) R H (fun c d H' => ∀ σ' : L2.St, W c d σ' H') fun f _ R' H' => ∀ σ', LocR X.K R' H' f.2 σ' → EndF X Dn R' H' σ' f.1
structure SE (e : Expr) (m : ME) : Prop where
  run : ∀ W : WX, Takes X W → PE X e (liftE X m W)
structure ST (e : Expr) (m : MT) : Prop where
  run : ∀ W : WX, Takes X W → PT X e (liftT X m W)
structure SW (e : Expr) (m : MT) : Prop where
  run : ∀ W : WX, Takes X W → PW X e (liftT X m W)
structure SA (es : List Expr) (m : MA) : Prop where
  run : ∀ W : WX, Takes X W → PA X es (liftA X m W)
end
section
variable {X : Cx} {e : Expr} {es : List Expr}
theorem PE.mono {t t' : TE} (h : PE X e t) (f : ∀ σ H Q, t' σ H Q → t σ H Q) : PE X e t' := ⟨fun pins s σ H Q I q => h.run pins s σ H Q I (f σ H Q q)⟩
theorem PT.mono {t t' : TT} (h : PT X e t) (f : ∀ σ H Q, t' σ H Q → t σ H Q) : PT X e t' := ⟨fun pins s σ H Q I q => h.run pins s σ H Q I (f σ H Q q)⟩
theorem PW.mono {t t' : TT} (h : PW X e t) (f : ∀ σ H Q, t' σ H Q → t σ H Q) : PW X e t' := ⟨fun wh pins s σ H Q I q => h.run wh pins s σ H Q I (f σ H Q q)⟩
theorem PA.mono {t t' : TA} (h : PA X es t) (f : ∀ σ H Q, t' σ H Q → t σ H Q) : PA X es t' := ⟨fun pos pins s σ H Q I q => h.run pos pins s σ H Q I (f σ H Q q)⟩
theorem PS.mono {st : Stmt} {t t' : TS} (h : PS X st t) (f : ∀ Dn σ H, t' Dn σ H → t Dn σ H) : PS X st t' := ⟨fun pins s σ H Dn I q => h.run pins s σ H Dn I (f Dn σ H q)⟩
theorem PSs.mono {st : List Stmt} {t t' : TS} (h : PSs X st t) (f : ∀ Dn σ H, t' Dn σ H → t Dn σ H) : PSs X st t' := ⟨fun pins s σ H Dn I q => h.run pins s σ H Dn I (f Dn σ H q)⟩
/-- one expression, then what is made of its value -/
theorem liftE.bind {m : ME} {f : Loc → D → Sto → Res D} {W : WX} {σ : L2.St} {H : Hp} {Q : VK} (h : liftE X (fun l S => (m l S).bind fun d S1 => f l d S1) W σ H Q) {T : V → Hp → Prop}
    (k : ∀ R S l d v H', RelX X R S H' → LocR X.K R H' l σ → DV X.K R H' d v → (Out X (f l d S) R H' (fun c d H' => W c d σ H') fun d _ R' H' => ∀ v, DV X.K R' H' d v → Q v H') → T v H') : liftE X m W σ H T := by
  obtain ⟨R, S, l, r, hl, h⟩ := h
  refine ⟨R, S, l, r, hl, (Out.bind h).imp fun d S1 R1 H1 x1 r1 q v hv => k R1 S1 l d v H1 r1 (hl.ext r x1) hv q⟩
end
end SL
set_option Elab.async false
set_option linter.all false
set_option maxRecDepth 100000
namespace SL
open PySem PySem.Spec PyProof.Rows L2

/-! ### expressions -/
def eVar (i : Nat) : ME := fun l S => match l[i]? with
  | some (some d) => .ok d S
  | _ => .bad
def eC (d : D) : ME := fun _ S => .ok d S
def eOp1 (f : Op1) (a : ME) : ME := fun l S => (a l S).bind fun d S1 => ofO (f d S1)
def eOp2 (f : Op2) (a b : ME) : ME := fun l S => (a l S).bind fun d S1 => (b l S1).bind fun e S2 => ofO (f d e S2)
def aNil : MA := fun _ S => .ok [] S
def aCons (a : ME) (r : MA) : MA := fun l S => (a l S).bind fun d S1 => (r l S1).bind fun ds S2 => .ok (d :: ds) S2
def eN (f : OpN) (a : MA) : ME := fun l S => (a l S).bind fun ds S1 => ofO (f ds S1)
def eTup (a : MA) : ME := fun l S => (a l S).bind fun ds S1 => if ds.length < 1000000 then .ok (.tup ds) S1 else .bad
def eLst (a : MA) : ME := fun l S => (a l S).bind fun ds S1 => if ds.length < 1000000 then .ok (.ref S1.length) (S1 ++ [.lst ds]) else .bad
def tOf (m : ME) : MT := fun l S => (m l S).bind fun d S1 => match d with
  | .bl b => .ok b S1
  | _ => .bad
def eAnd (a b : ME) : ME := fun l S => (a l S).bind fun d S1 => match d with
  | .bl true => b l S1
  | .bl false => .ok (.bl false) S1
  | _ => .bad
def eOr (a b : ME) : ME := fun l S => (a l S).bind fun d S1 => match d with
  | .bl true => .ok (.bl true) S1
  | .bl false => b l S1
  | _ => .bad
def eNot (a : ME) : ME := fun l S => (a l S).bind fun d S1 => match d with
  | .bl b => .ok (.bl (!b)) S1
  | _ => .bad
def eIf (t : MT) (a b : ME) : ME := fun l S => (t l S).bind fun k S1 => if k = true then a l S1 else b l S1
def tAnd (a b : MT) : MT := fun l S => (a l S).bind fun k S1 => if k = true then b l S1 else .ok false S1
def tOr (a b : MT) : MT := fun l S => (a l S).bind fun k S1 => if k = true then .ok true S1 else b l S1
def tNot (a : MT) : MT := fun l S => (a l S).bind fun k S1 => .ok (!k) S1
def eChain (f g : Op2) (a b c : ME) : ME := fun l S => (a l S).bind fun d S1 => (b l S1).bind fun e S2 => (ofO (f d e S2)).bind fun k S3 => match k with
  | .bl true => (c l S3).bind fun h S4 => ofO (g e h S4)
  | .bl false => .ok (.bl false) S3
  | _ => .bad

/-! ### operations by values -/
section
variable (X : Cx)
def liftO1 (f : Op1) : V → Hp → VK → Prop := fun x H Q => ∃ R S d, RelX X R S H ∧ DV X.K R H d x ∧ OutO X (f d S) R H fun d' _ R' H' => ∀ v, DV X.K R' H' d' v → Q v H'
def liftO2 (f : Op2) : R2 := fun x y H Q => ∃ R S d e, RelX X R S H ∧ DV X.K R H d x ∧ DV X.K R H e y ∧ OutO X (f d e S) R H fun d' _ R' H' => ∀ v, DV X.K R' H' d' v → Q v H'
def liftON (f : OpN) : List V → Hp → VK → Prop := fun xs H Q => ∃ R S ds, RelX X R S H ∧ DVs X.K R H ds xs ∧ OutO X (f ds S) R H fun d' _ R' H' => ∀ v, DV X.K R' H' d' v → Q v H'
end
section
variable {X : Cx}
theorem OpR.mono {F : Value → Value → Sem Value} {r r' : R2} (h : OpR X F r) (f : ∀ x y H Q, r' x y H Q → r x y H Q) : OpR X F r' := fun pins s σ H x y v u Q I rx ry q => h pins s σ H x y v u Q I rx ry (f _ _ _ _ q)
theorem CallR.mono {F : Value} {r r' : List V → Hp → VK → Prop} (h : CallR X F r) (f : ∀ x H Q, r' x H Q → r x H Q) : CallR X F r' := fun pins s σ H vs us Q I rx q => h pins s σ H vs us Q I rx (f _ _ _ q)
theorem IxR.mono {r r' : R2} (h : IxR X r) (f : ∀ x y H Q, r' x y H Q → r x y H Q) : IxR X r' := fun va sl pins s σ H x y v u Q I rx ry q => h va sl pins s σ H x y v u Q I rx ry (f _ _ _ _ q)
end

section
variable {X : Cx} {pos : Pos} {a b c : Expr} {es : List Expr} {ma mb mc : ME} {mA : MA} {ta tb : MT}
theorem se_var {i : Nat} {x : Str} (hN : X.N[i]? = some x) (hv : Vis X.env.scope x) (hd : (x == ("__debug__" : Str)) = false := by decide) (hcd : (x == ("__classdict__" : Str)) = false := by decide) : SE X (.Name x pos) (eVar i) := ⟨fun W tk => by
  refine PE.mono (pe_var hN hv hd hcd) fun σ H Q ⟨R, S, l, r, hl, h⟩ => ?_
  unfold eVar at h
  split at h
  · rename_i d e
    obtain ⟨v, e', q⟩ := hl.2 i d e
    exact ⟨v, e', Out.pure h r v q⟩
  · exact False.elim h⟩
theorem se_const {t : V} {d : D} (h : PE X a (L2.tC t)) (hd : ∀ R H, DV X.K R H d t) : SE X a (eC d) := ⟨fun W tk => by
  refine PE.mono h fun σ H Q ⟨R, S, l, r, hl, q⟩ => ?_
  exact Out.pure (W := fun c d H' => W c d σ H') q r _ (hd R H)⟩
theorem se_int {i j} : SE X (.Constant (.int i) j pos) (eC (.int i)) := se_const pe_int fun _ _ => .int i
theorem se_bl {i j} : SE X (.Constant (.bool i) j pos) (eC (.bl i)) := se_const pe_bl fun _ _ => .bl i
theorem se_non {j} : SE X (.Constant .none j pos) (eC .non) := se_const pe_non fun _ _ => .non
theorem se_str {i j} : SE X (.Constant (.str i) j pos) (eC (.str i)) := se_const pe_str fun _ _ => .str i
/-- a module's name that is an int, a text -/
theorem se_glV {x : Str} {v : V} {u : Value} {d : D} (hg : Gl X x) (hm : X.mg x = some u) (r : RelV v u) (hd : ∀ R H, DV X.K R H d v) (hdb : (x == ("__debug__" : Str)) = false := by decide) : SE X (.Name x pos) (eC d) := se_const (pe_glob hg hm r hdb) hd
/-- .. a def, a class, a table -/
theorem se_gl {x : Str} (hg : Gl X x) (hm : X.mg x = some (.ref (He.ga X.K x))) (hdb : (x == ("__debug__" : Str)) = false := by decide) : SE X (.Name x pos) (eC (.gl x)) := se_glV hg hm (v := .ref (He.ga X.K x)) rfl (fun _ _ => .gl x) hdb

/-- two in a row -/
theorem two {f : Loc → D → D → Sto → Res D} {W : WX} {σ : L2.St} {H : Hp} {Q : VK} (h : liftE X (fun l S => (ma l S).bind fun d S1 => (mb l S1).bind fun e S2 => f l d e S2) W σ H Q) {T : V → V → Hp → Prop}
    (k : ∀ R S l d e v u H', RelX X R S H' → LocR X.K R H' l σ → DV X.K R H' d v → DV X.K R H' e u → (Out X (f l d e S) R H' (fun c d H' => W c d σ H') fun d _ R' H' => ∀ v, DV X.K R' H' d v → Q v H') → T v u H') :
    liftE X ma W σ H fun x H1 => liftE X mb W σ H1 fun y H2 => T x y H2 := by
  refine liftE.bind (f := fun l d S1 => (mb l S1).bind fun e S2 => f l d e S2) h fun R S l d v H1 r hl hv q => ?_
  refine ⟨R, S, l, r, hl, (Out.bind q).imp fun e S2 R2 H2 x2 r2 q2 u hu => k R2 S2 l d e v u H2 r2 (hl.ext r x2) (hv.ext r x2) hu q2⟩
theorem se_bin {op : Operator} {f : Op2} (ho : OpR X (binaryOp op) (liftO2 X f)) (ha : SE X a ma) (hb : SE X b mb) : SE X (.BinOp a op b pos) (eOp2 f ma mb) := ⟨fun W tk => by
  refine PE.mono (pe_op ho (ha.run W tk) (hb.run W tk)) fun σ H Q h => ?_
  exact two (f := fun _ d e S => ofO (f d e S)) h fun R S l d e v u H' r hl hv hu q => ⟨R, S, d, e, r, hv, hu, Out.ofO q⟩⟩
theorem se_cmp {op : CmpOp} {f : Op2} (ho : OpR X (compareOp op) (liftO2 X f)) (ha : SE X a ma) (hb : SE X b mb) (hm : behindInMarks op b = false := by first | exact nobehind _ (by decide) (by decide) | rfl) : SE X (.Compare a [op] [b] pos) (eOp2 f ma mb) := ⟨fun W tk => by
  refine PE.mono (pe_cmpR ho (ha.run W tk) (hb.run W tk) hm) fun σ H Q h => ?_
  exact two (f := fun _ d e S => ofO (f d e S)) h fun R S l d e v u H' r hl hv hu q => ⟨R, S, d, e, r, hv, hu, Out.ofO q⟩⟩
theorem se_ix {f : Op2} (ho : IxR X (liftO2 X f)) (ha : SE X a ma) (hb : SE X b mb) (hp : PlainIx b := by exact fun _ _ => rfl) : SE X (.Subscript a b pos) (eOp2 f ma mb) := ⟨fun W tk => by
  refine PE.mono (pe_ix ho (ha.run W tk) (hb.run W tk) hp) fun σ H Q h => ?_
  exact two (f := fun _ d e S => ofO (f d e S)) h fun R S l d e v u H' r hl hv hu q => ⟨R, S, d, e, r, hv, hu, Out.ofO q⟩⟩
/-- a bool, as a test -/
theorem tOf_run {t : TE} {W : WX} (m : ME) : ∀ σ H (Q : Bool → Hp → Prop), liftT X (tOf m) W σ H Q → liftE X m W σ H fun x H1 => ∃ c, x = .bl c ∧ Q c H1 := by
  rintro σ H Q ⟨R, S, l, r, hl, h⟩
  refine ⟨R, S, l, r, hl, (Out.bind h).imp fun d S1 R1 H1 x1 r1 q v hv => ?_⟩
  cases d <;> first | exact False.elim q | (rename_i b; cases hv; exact ⟨_, rfl, Out.pure q r1⟩)
theorem st_val (ha : SE X a ma) (he : ∀ whole, isTrue a X.env whole = (do let v ← whole; standAt a.pos; holding [v] (truthy v)) := by intro _; rfl) : ST X a (tOf ma) := ⟨fun W tk =>
  PT.mono (pt_val (ha.run W tk) he) fun σ H Q h => tOf_run (t := fun _ _ _ => True) ma σ H Q h⟩
theorem st_cmp {op : CmpOp} {f : Op2} (ho : OpR X (compareOp op) (liftO2 X f)) (ha : SE X a ma) (hb : SE X b mb) (hm : behindInMarks op b = false := by first | exact nobehind _ (by decide) (by decide) | rfl) : ST X (.Compare a [op] [b] pos) (tOf (eOp2 f ma mb)) := ⟨fun W tk => by
  refine PT.mono (pt_cmpR ho (ha.run W tk) (hb.run W tk) hm) fun σ H Q h => ?_
  obtain ⟨R, S, l, r, hl, q⟩ := tOf_run (t := fun _ _ _ => True) _ σ H Q h
  exact two (f := fun _ d e S => ofO (f d e S)) ⟨R, S, l, r, hl, q⟩ fun R S l d e v u H' r hl hv hu q => ⟨R, S, d, e, r, hv, hu, Out.ofO q⟩⟩
/-- a op b op c -/
theorem chain_run {f g : Op2} {W : WX} (σ : L2.St) (H : Hp) (Q : VK) (h : liftE X (eChain f g ma mb mc) W σ H Q) : tChain (liftO2 X f) (liftO2 X g) (liftE X ma W) (liftE X mb W) (liftE X mc W) σ H Q := by
  refine two (f := fun l d e S2 => (ofO (f d e S2)).bind fun k S3 => match k with
    | .bl true => (mc l S3).bind fun h S4 => ofO (g e h S4)
    | .bl false => .ok (.bl false) S3
    | _ => .bad) h fun R S l d e v u H' r hl hv hu q => ⟨R, S, d, e, r, hv, hu, ?_⟩
  have q2 := Out.ofO (Out.bind q)
  cases z : f d e S with
  | none => rw [z] at q2; exact q2
  | some p =>
    rw [z] at q2
    intro R1 H1 x1 r1 v1 hv1
    have q3 := q2 R1 H1 x1 r1
    obtain ⟨k, S3⟩ := p
    cases k with
    | bl k =>
      cases hv1
      refine ⟨k, rfl, ?_⟩
      cases k with
      | true =>
        rw [if_pos rfl]
        exact ⟨R1, S3, l, r1, hl.ext r x1, (Out.bind q3).imp fun h S4 R4 H4 x4 r4 q4 w hw => ⟨R4, S4, e, h, r4, (hu.ext r x1).ext r1 x4, hw, Out.ofO q4⟩⟩
      | false =>
        rw [if_neg Bool.false_ne_true]
        exact Out.pure q3 r1 _ (.bl false)
    | _ => exact False.elim q3
theorem se_chain {op op' : CmpOp} {f g : Op2} (ho : OpR X (compareOp op) (liftO2 X f)) (ho' : OpR X (compareOp op') (liftO2 X g)) (ha : SE X a ma) (hb : SE X b mb) (hc : SE X c mc) (hm : lastMarks [op, op'] [b, c] = false := by with_unfolding_all rfl) :
    SE X (.Compare a [op, op'] [b, c] pos) (eChain f g ma mb mc) := ⟨fun W tk => PE.mono (pe_chain ho ho' (ha.run W tk) (hb.run W tk) (hc.run W tk) hm) fun σ H Q h => chain_run σ H Q h⟩
theorem st_chain {op op' : CmpOp} {f g : Op2} (ho : OpR X (compareOp op) (liftO2 X f)) (ho' : OpR X (compareOp op') (liftO2 X g)) (ha : SE X a ma) (hb : SE X b mb) (hc : SE X c mc) (hm : lastMarks [op, op'] [b, c] = false := by with_unfolding_all rfl) :
    ST X (.Compare a [op, op'] [b, c] pos) (tOf (eChain f g ma mb mc)) := ⟨fun W tk => PT.mono (pt_chain ho ho' (ha.run W tk) (hb.run W tk) (hc.run W tk) hm) fun σ H Q h => chain_run σ H _ (tOf_run (t := fun _ _ _ => True) _ σ H Q h)⟩

/-! ### and, or, not -/
theorem se_one {op} (h : SE X a ma) : SE X (.BoolOp op [a] pos) ma := ⟨fun W tk => pe_one (h.run W tk)⟩
theorem se_and {rest : List Expr} (ha : SE X a ma) (hb : SE X (.BoolOp .And (b :: rest) pos) mb) : SE X (.BoolOp .And (a :: b :: rest) pos) (eAnd ma mb) := ⟨fun W tk => by
  refine PE.mono (pe_and (ha.run W tk) (hb.run W tk)) fun σ H Q h => ?_
  refine liftE.bind (f := fun l d S1 => match d with
    | .bl true => mb l S1
    | .bl false => .ok (.bl false) S1
    | _ => .bad) h fun R S l d v H' r hl hv q => ?_
  cases d with
  | bl k =>
    cases hv
    refine ⟨k, rfl, ?_⟩
    cases k with
    | true => rw [if_pos rfl]; exact ⟨R, S, l, r, hl, q⟩
    | false => rw [if_neg Bool.false_ne_true]; exact Out.pure q r _ (.bl false)
  | _ => exact False.elim q⟩
theorem se_or {rest : List Expr} (ha : SE X a ma) (hb : SE X (.BoolOp .Or (b :: rest) pos) mb) : SE X (.BoolOp .Or (a :: b :: rest) pos) (eOr ma mb) := ⟨fun W tk => by
  refine PE.mono (pe_or (ha.run W tk) (hb.run W tk)) fun σ H Q h => ?_
  refine liftE.bind (f := fun l d S1 => match d with
    | .bl true => .ok (.bl true) S1
    | .bl false => mb l S1
    | _ => .bad) h fun R S l d v H' r hl hv q => ?_
  cases d with
  | bl k =>
    cases hv
    refine ⟨k, rfl, ?_⟩
    cases k with
    | true => rw [if_pos rfl]; exact Out.pure q r _ (.bl true)
    | false => rw [if_neg Bool.false_ne_true]; exact ⟨R, S, l, r, hl, q⟩
  | _ => exact False.elim q⟩
theorem se_not (ha : SE X a ma) : SE X (.UnaryOp .Not a pos) (eNot ma) := ⟨fun W tk => by
  refine PE.mono (pe_not (ha.run W tk)) fun σ H Q h => ?_
  refine liftE.bind (f := fun l d S1 => match d with
    | .bl b => .ok (.bl (!b)) S1
    | _ => .bad) h fun R S l d v H' r hl hv q => ?_
  cases d with
  | bl k => cases hv; exact ⟨k, rfl, Out.pure q r _ (.bl _)⟩
  | _ => exact False.elim q⟩
theorem liftT.bind {β : Type} {f : Loc → Bool → Sto → Res β} {W : WX} {σ : L2.St} {H : Hp} {Q : β → Sto → List Addr → Hp → Prop} {R : List Addr} {S : Sto} {l : Loc} (r : RelX X R S H) (hl : LocR X.K R H l σ)
    (h : Out X ((ta l S).bind fun d S1 => f l d S1) R H (fun c d H' => W c d σ H') Q) {T : Bool → Hp → Prop}
    (k : ∀ R S k H', RelX X R S H' → LocR X.K R H' l σ → Out X (f l k S) R H' (fun c d H' => W c d σ H') Q → T k H') : liftT X ta W σ H T :=
  ⟨R, S, l, r, hl, (Out.bind h).imp fun d S1 R1 H1 x1 r1 q => k R1 S1 d H1 r1 (hl.ext r x1) q⟩
theorem st_not (ha : ST X a ta) : ST X (.UnaryOp .Not a pos) (tNot ta) := ⟨fun W tk => by
  refine PT.mono (pt_not (ha.run W tk)) fun σ H Q ⟨R, S, l, r, hl, h⟩ => ?_
  exact liftT.bind (f := fun _ k S1 => .ok (!k) S1) r hl h fun R S k H' r hl q => Out.pure q r⟩
theorem sw_and1 (ha : ST X a ta) : SW X (.BoolOp .And [a] pos) ta := ⟨fun W tk => pw_and1 (ha.run W tk)⟩
theorem sw_or1 (ha : ST X a ta) : SW X (.BoolOp .Or [a] pos) ta := ⟨fun W tk => pw_or1 (ha.run W tk)⟩
theorem sw_and {rest : List Expr} (ha : ST X a ta) (hb : SW X (.BoolOp .And (b :: rest) pos) tb) : SW X (.BoolOp .And (a :: b :: rest) pos) (tAnd ta tb) := ⟨fun W tk => by
  refine PW.mono (pw_and (ha.run W tk) (hb.run W tk)) fun σ H Q ⟨R, S, l, r, hl, h⟩ => ?_
  refine liftT.bind (f := fun l k S1 => if k = true then tb l S1 else .ok false S1) r hl h fun R S k H' r hl q => ?_
  cases k with
  | true => rw [if_pos rfl] at q ⊢; exact ⟨R, S, l, r, hl, q⟩
  | false => rw [if_neg Bool.false_ne_true] at q ⊢; exact Out.pure q r⟩
theorem sw_or {rest : List Expr} (ha : ST X a ta) (hb : SW X (.BoolOp .Or (b :: rest) pos) tb) : SW X (.BoolOp .Or (a :: b :: rest) pos) (tOr ta tb) := ⟨fun W tk => by
  refine PW.mono (pw_or (ha.run W tk) (hb.run W tk)) fun σ H Q ⟨R, S, l, r, hl, h⟩ => ?_
  refine liftT.bind (f := fun l k S1 => if k = true then .ok true S1 else tb l S1) r hl h fun R S k H' r hl q => ?_
  cases k with
  | true => rw [if_pos rfl] at q ⊢; exact Out.pure q r
  | false => rw [if_neg Bool.false_ne_true] at q ⊢; exact ⟨R, S, l, r, hl, q⟩⟩
theorem st_w (h : SW X a ta) : ST X a ta := ⟨fun W tk => (h.run W tk).pt⟩
theorem se_ifx (hc : ST X c ta) (ha : SE X a ma) (hb : SE X b mb) : SE X (.IfExp c a b pos) (eIf ta ma mb) := ⟨fun W tk => by
  refine PE.mono (pe_ifExp (hc.run W tk) (ha.run W tk) (hb.run W tk)) fun σ H Q ⟨R, S, l, r, hl, h⟩ => ?_
  refine liftT.bind (f := fun l k S1 => if k = true then ma l S1 else mb l S1) r hl h fun R S k H' r hl q => ?_
  cases k with
  | true => rw [if_pos rfl] at q ⊢; exact ⟨R, S, l, r, hl, q⟩
  | false => rw [if_neg Bool.false_ne_true] at q ⊢; exact ⟨R, S, l, r, hl, q⟩⟩

/-! ### argument lists, displays -/
theorem sa_nil : SA X [] aNil := ⟨fun W tk => PA.mono pa_nil fun σ H Q ⟨R, S, l, r, hl, q⟩ => Out.pure (W := fun c d H' => W c d σ H') q r _ .nil⟩
theorem sa_cons (ha : SE X a ma) (hr : SA X es mA) (hs : starEach (a :: es) X.env = (false, eval a X.env) :: starEach es X.env := by rfl) : SA X (a :: es) (aCons ma mA) := ⟨fun W tk => by
  refine PA.mono (pa_cons (ha.run W tk) (hr.run W tk) hs) fun σ H Q ⟨R, S, l, r, hl, h⟩ => ?_
  refine ⟨R, S, l, r, hl, (Out.bind h).imp fun d S1 R1 H1 x1 r1 q1 v hv => ⟨R1, S1, l, r1, hl.ext r x1, (Out.bind q1).imp fun ds S2 R2 H2 x2 r2 q2 vs hvs => ?_⟩⟩
  exact Out.pure q2 r2 _ (.cons (hv.ext r1 x2) hvs)⟩
theorem line_big {n : Nat} (h : n < 1000000) : n ≤ sizeLine := by rw [sizeLine_eq]; omega
theorem se_tup {x1} (h : SA X es mA) : SE X (.Tuple es x1 pos) (eTup mA) := ⟨fun W tk => by
  refine PE.mono (pe_tup (h.run W tk)) fun σ H Q ⟨R, S, l, r, hl, h⟩ => ?_
  refine ⟨R, S, l, r, hl, (Out.bind h).imp fun ds S1 R1 H1 x1 r1 q vs hvs => ?_⟩
  by_cases hz : ds.length < 1000000
  · rw [if_pos hz] at q
    refine ⟨by rw [← hvs.length]; exact line_big hz, fun p hp => ?_⟩
    exact q R1 _ (Ext.fresh hp) (r1.fresh hp) _ (.tup (.of upd_same) (hvs.ext r1 (Ext.fresh hp)))
  · rw [if_neg hz] at q; exact False.elim q⟩
theorem get_last {R : List Addr} {S : Sto} {H : Hp} {p : Addr} (r : RelX X R S H) : (R ++ [p])[S.length]? = some p := by
  rw [← r.len, List.getElem?_append_right (Nat.le_refl _)]; simp
theorem se_lst (h : SA X es mA) : SE X (.List es pos) (eLst mA) := ⟨fun W tk => by
  refine PE.mono (pe_lst (h.run W tk)) fun σ H Q ⟨R, S, l, r, hl, h⟩ => ?_
  refine ⟨R, S, l, r, hl, (Out.bind h).imp fun ds S1 R1 H1 x1 r1 q vs hvs => ?_⟩
  by_cases hz : ds.length < 1000000
  · rw [if_pos hz] at q
    refine ⟨by rw [← hvs.length]; exact line_big hz, fun p hp => ?_⟩
    exact q _ _ (Ext.push hp) (r1.push hp ⟨vs, upd_same, hvs.ext r1 (Ext.push hp)⟩) _ (.ref (get_last r1))
  · rw [if_neg hz] at q; exact False.elim q⟩
/-- a built-in function by its name, a built-in class -/
theorem se_callB {id : String} {x : Str} {p : Pos} {f : OpN} (hc : CallR X (.builtin id) (liftON X f)) (hg : Gl X x) (hm : X.mg x = none) (hv : bootBuiltins x = some (.builtin id)) (ha : SA X (a :: es) mA) (hn : x ≠ "__name__" := by decide) (hdb : (x == ("__debug__" : Str)) = false := by decide)
    (he : starEach (a :: es) X.env = (false, eval a X.env) :: starEach es X.env := by rfl) (hpl : (backTo pos (starEach es X.env)).any (·.1) = false := by rfl) : SE X (.Call (.Name x p) (a :: es) [] pos) (eN f mA) := ⟨fun W tk => by
  refine PE.mono (pe_callB hc hg hm hv (ha.run W tk) hn hdb he hpl) fun σ H Q ⟨R, S, l, r, hl, h⟩ => ?_
  exact ⟨R, S, l, r, hl, (Out.bind h).imp fun ds S1 R1 H1 x1 r1 q vs hvs => ⟨R1, S1, ds, r1, hvs, Out.ofO q⟩⟩⟩
theorem se_callTy {T : String} {x : Str} {p : Pos} {f : OpN} (hc : CallR X (.type T) (liftON X f)) (hg : Gl X x) (hm : X.mg x = none) (hv : bootBuiltins x = some (.type T)) (ha : SA X (a :: es) mA) (hn : x ≠ "__name__" := by decide) (hdb : (x == ("__debug__" : Str)) = false := by decide)
    (he : starEach (a :: es) X.env = (false, eval a X.env) :: starEach es X.env := by rfl) (hpl : (backTo pos (starEach es X.env)).any (·.1) = false := by rfl) : SE X (.Call (.Name x p) (a :: es) [] pos) (eN f mA) := ⟨fun W tk => by
  refine PE.mono (pe_callTy hc hg hm hv (ha.run W tk) hn hdb he hpl) fun σ H Q ⟨R, S, l, r, hl, h⟩ => ?_
  exact ⟨R, S, l, r, hl, (Out.bind h).imp fun ds S1 R1 H1 x1 r1 q vs hvs => ⟨R1, S1, ds, r1, hvs, Out.ofO q⟩⟩⟩
end
end SL
set_option Elab.async false
set_option linter.all false
set_option maxRecDepth 100000
namespace SL
open PySem PySem.Spec PyProof.Rows L2

/-! ### what the operations do -/
def oI2 (f : Int → Int → D) : Op2 := fun d e S => match d, e with
  | .int i, .int j => some (f i j, S)
  | _, _ => none
def oAdd : Op2 := oI2 fun i j => .int (i + j)
def oSub : Op2 := oI2 fun i j => .int (i - j)
def oLt : Op2 := oI2 fun i j => .bl (decide (i < j))
def oLe : Op2 := oI2 fun i j => .bl (decide (i ≤ j))
def oGt : Op2 := oI2 fun i j => .bl (decide (j < i))
def oGe : Op2 := oI2 fun i j => .bl (decide (j ≤ i))
def oNeg : Op1 := fun d S => match d with
  | .int i => some (.int (-i), S)
  | _ => none
def isNon : D → Bool
  | .non => true
  | _ => false
def oIsN : Op2 := fun d e S => match e with
  | .non => some (.bl (isNon d), S)
  | _ => none
def oNotN : Op2 := fun d e S => match e with
  | .non => some (.bl (!isNon d), S)
  | _ => none
mutual
def D.py : D → Option PyData
  | .non => some .none
  | .bl b => some (.bool b)
  | .int i => some (.int i)
  | .str x => some (.str x)
  | .tup ds => (D.pys ds).map .tuple
  | _ => none
def D.pys : List D → Option (List PyData)
  | [] => some []
  | d :: ds => match D.py d, D.pys ds with
    | some k, some ks => some (k :: ks)
    | _, _ => none
end
def oEqD (neg : Bool) : Op2 := fun d e S => match d.py, e.py with
  | some x, some y => if SeqAt.shaped x && SeqAt.shaped y then some (.bl (if neg then !PyData.eqv x y else PyData.eqv x y), S) else none
  | _, _ => none
/-- xs == [], xs != [] -/
def oEmp (neg : Bool) : Op2 := fun d e S => match d, e with
  | .ref n, .ref m => match S[n]?, S[m]? with
    | some (.lst ds), some (.lst []) => some (.bl (if neg then !ds.isEmpty else ds.isEmpty), S)
    | _, _ => none
  | _, _ => none
def flatD : D → Bool
  | .non | .bl _ | .int _ | .str _ => true
  | _ => false
def eqFlat : D → D → Bool
  | .non, .non => true
  | .bl a, .bl b => a == b
  | .bl a, .int b => (if a then 1 else 0) == b
  | .int a, .bl b => a == (if b then 1 else 0)
  | .int a, .int b => a == b
  | .str a, .str b => a == b
  | _, _ => false
def inD (x : D) (ds : List D) : Bool := ds.any fun y => eqFlat y x
/-- the items of a list or a tuple -/
def itemsOf (d : D) (S : Sto) : Option (List D) := match d with
  | .tup ds => some ds
  | .ref n => match S[n]? with
    | some (.lst ds) => some ds
    | _ => none
  | _ => none
def oIn (neg : Bool) : Op2 := fun x d S => match itemsOf d S with
  | some ds => if flatD x && ds.all flatD then some (.bl (if neg then !inD x ds else inD x ds), S) else none
  | none => none
def oInStr : Op2 := fun x d S => match x, d with
  | .str i, .str j => some (.bl (!(Builtin.Str.occurrences j i 0 j.length 1).isEmpty), S)
  | _, _ => none
def oIxT : Op2 := fun d e S => match d, e with
  | .tup ds, .int i => (atI ds i).map fun x => (x, S)
  | _, _ => none
def oIxL : Op2 := fun d e S => match d, e with
  | .ref n, .int i => match S[n]? with
    | some (.lst ds) => (atI ds i).map fun x => (x, S)
    | _ => none
  | _, _ => none
def oCatT : Op2 := fun d e S => match d, e with
  | .tup ds, .tup es => if ds.length + es.length < 1000000 then some (.tup (ds ++ es), S) else none
  | _, _ => none
def oCatL : Op2 := fun d e S => match d, e with
  | .ref n, .ref m => match S[n]?, S[m]? with
    | some (.lst ds), some (.lst es) => if ds.length + es.length < 1000000 then some (.ref S.length, S ++ [.lst (ds ++ es)]) else none
    | _, _ => none
  | _, _ => none
def oLen : OpN := fun ds S => match ds with
  | [.str x] => if x.length < 1000000 then some (.int x.length, S) else none
  | [d] => (itemsOf d S).map fun es => (.int es.length, S)
  | _ => none
def oInt : OpN := fun ds S => match ds with
  | [.int i] => some (.int i, S)
  | [.bl k] => some (.int (if k then 1 else 0), S)
  | _ => none
def boolsOf : List D → Option (List Bool)
  | [] => some []
  | .bl b :: ds => (boolsOf ds).map (b :: ·)
  | _ => none
def oAll : OpN := fun ds S => match ds with
  | [.ref n] => match S[n]? with
    | some (.lst es) => (boolsOf es).map fun bs => (.bl (bs.all id), S)
    | _ => none
  | _ => none
def oTupOf : OpN := fun ds S => match ds with
  | [d] => (itemsOf d S).map fun es => (.tup es, S)
  | _ => none

/-! ### that they do -/
section
variable {X : Cx}
theorem DVs.one {K : PySem.W.Frag} {R : List Addr} {H : Hp} {d : D} {xs : List V} (h : DVs K R H [d] xs) : ∃ v, xs = [v] ∧ DV K R H d v := by
  cases h with
  | cons a t => cases t; exact ⟨_, rfl, a⟩
theorem DVs.two {K : PySem.W.Frag} {R : List Addr} {H : Hp} {d e : D} {xs : List V} (h : DVs K R H [d, e] xs) : ∃ v u, xs = [v, u] ∧ DV K R H d v ∧ DV K R H e u := by
  cases h with
  | cons a t => obtain ⟨u, rfl, b⟩ := DVs.one t; exact ⟨_, _, rfl, a, b⟩
/-- one argument -/
theorem callR1 {F : Value} {rr : List V → Hp → VK → Prop} {f : OpN} (h : CallR X F rr) (h1 : ∀ d S, f [d] S = none ∨ True) (no : ∀ ds S, (∀ d, ds ≠ [d]) → f ds S = none)
    (k : ∀ R S H d v Q, RelX X R S H → DV X.K R H d v → (OutO X (f [d] S) R H fun d' _ R' H' => ∀ v, DV X.K R' H' d' v → Q v H') → rr [v] H Q) : CallR X F (liftON X f) := by
  refine CallR.mono h fun xs H Q ⟨R, S, ds, r, hd, q⟩ => ?_
  by_cases z : ∃ d, ds = [d]
  · obtain ⟨d, rfl⟩ := z
    obtain ⟨v, rfl, hv⟩ := hd.one
    exact k R S H d v Q r hv q
  · rw [no ds S fun d e => z ⟨d, e⟩] at q
    exact False.elim q
theorem DV.intv {K : PySem.W.Frag} {R : List Addr} {H : Hp} {i : Int} {v : V} (h : DV K R H (.int i) v) : v = .int i := by cases h; rfl
theorem DV.strv {K : PySem.W.Frag} {R : List Addr} {H : Hp} {i : Str} {v : V} (h : DV K R H (.str i) v) : v = .str i := by cases h; rfl
theorem op_i2 {F : Value → Value → Sem Value} {g : Int → Int → V} {f : Int → Int → D} (ho : OpR X F (rI0 g)) (hf : ∀ i j R H, DV X.K R H (f i j) (g i j)) : OpR X F (liftO2 X (oI2 f)) := by
  refine OpR.mono ho fun x y H Q ⟨R, S, d, e, r, hd, he, q⟩ => ?_
  cases d <;> cases e <;> first | exact False.elim q | skip
  rename_i i j
  exact ⟨i, j, hd.intv, he.intv, OutO.pure q r _ (hf i j R H)⟩
theorem s_add : OpR X (binaryOp .Add) (liftO2 X oAdd) := op_i2 op_add fun _ _ _ _ => .int _
theorem s_sub : OpR X (binaryOp .Sub) (liftO2 X oSub) := op_i2 op_sub fun _ _ _ _ => .int _
theorem s_lt : OpR X (compareOp .Lt) (liftO2 X oLt) := op_i2 op_lt fun _ _ _ _ => .bl _
theorem s_le : OpR X (compareOp .LtE) (liftO2 X oLe) := op_i2 op_le fun _ _ _ _ => .bl _
theorem s_gt : OpR X (compareOp .Gt) (liftO2 X oGt) := op_i2 op_gt fun _ _ _ _ => .bl _
theorem s_ge : OpR X (compareOp .GtE) (liftO2 X oGe) := op_i2 op_ge fun _ _ _ _ => .bl _
theorem DV.isN {K : PySem.W.Frag} {R : List Addr} {H : Hp} {d : D} {v : V} (h : DV K R H d v) : isNon d = decide (v = .non) := by cases h <;> rfl
theorem s_isN : OpR X (compareOp .Is) (liftO2 X oIsN) := by
  refine OpR.mono op_isN fun x y H Q ⟨R, S, d, e, r, hd, he, q⟩ => ?_
  cases e <;> first | exact False.elim q | skip
  cases he
  have q' := OutO.pure q r
  exact ⟨rfl, q' _ (by rw [hd.isN]; exact .bl _)⟩
theorem s_notN : OpR X (compareOp .IsNot) (liftO2 X oNotN) := by
  refine OpR.mono op_notN fun x y H Q ⟨R, S, d, e, r, hd, he, q⟩ => ?_
  cases e <;> first | exact False.elim q | skip
  cases he
  have q' := OutO.pure q r
  exact ⟨rfl, q' _ (by rw [hd.isN]; exact .bl _)⟩
mutual
theorem DV.dp {R : List Addr} {H : Hp} : ∀ {d : D} {v : V} {k : PyData}, DV X.K R H d v → d.py = some k → Dp X.K H v k
  | .non, _, _, h, e => by cases h; cases e; exact .non
  | .bl b, _, _, h, e => by cases h; cases e; exact .bl b
  | .int b, _, _, h, e => by cases h; cases e; exact .int b
  | .str b, _, _, h, e => by cases h; cases e; exact .str b
  | .tup ds, _, _, h, e => by
    cases h with
    | tup s t =>
      have e' : (D.pys ds).map PyData.tuple = some _ := e
      cases q : D.pys ds with
      | none => rw [q] at e'; cases e'
      | some ks => rw [q] at e'; cases e'; exact .tup s (DVs.dp t q)
  | .ty _, _, _, _, e => by cases e
  | .gl _, _, _, _, e => by cases e
  | .ref _, _, _, _, e => by cases e
theorem DVs.dp {R : List Addr} {H : Hp} : ∀ {ds : List D} {vs : List V} {ks : List PyData}, DVs X.K R H ds vs → D.pys ds = some ks → DpAll X.K H vs ks
  | [], _, _, h, e => by cases h; cases e; exact .nil
  | d :: ds, _, _, h, e => by
    cases h with
    | cons a t =>
      have e' : (match D.py d, D.pys ds with
        | some k, some ks => some (k :: ks)
        | _, _ => none) = some _ := e
      cases q1 : D.py d with
      | none => rw [q1] at e'; cases e'
      | some k =>
        cases q2 : D.pys ds with
        | none => rw [q1, q2] at e'; cases e'
        | some ks => rw [q1, q2] at e'; cases e'; exact .cons (DV.dp a q1) (DVs.dp t q2)
end
theorem eqD_run {neg : Bool} {x y : V} {H : Hp} {Q : VK} (h : liftO2 X (oEqD neg) x y H Q) : ∃ d e, Dp X.K H x d ∧ Dp X.K H y e ∧ SeqAt.shaped d = true ∧ SeqAt.shaped e = true ∧ Q (.bl (if neg then !PyData.eqv d e else PyData.eqv d e)) H := by
  obtain ⟨R, S, d, e, r, hd, he, q⟩ := h
  unfold oEqD at q
  cases q1 : d.py with
  | none => rw [q1] at q; exact False.elim q
  | some a =>
    cases q2 : e.py with
    | none => rw [q1, q2] at q; exact False.elim q
    | some b =>
      rw [q1, q2] at q
      by_cases z : (SeqAt.shaped a && SeqAt.shaped b) = true
      · simp only [z, if_true] at q
        obtain ⟨z1, z2⟩ := Bool.and_eq_true_iff.mp z
        exact ⟨a, b, hd.dp q1, he.dp q2, z1, z2, OutO.pure q r _ (.bl _)⟩
      · simp only [z] at q; exact False.elim q
theorem s_eqD (hu : X.A.units + 64 < cLine) : OpR X (compareOp .Eq) (liftO2 X (oEqD false)) := OpR.mono (op_eqD hu) fun _ _ _ _ h => eqD_run h
theorem s_neD (hu : X.A.units + 64 < cLine) : OpR X (compareOp .NotEq) (liftO2 X (oEqD true)) := OpR.mono (op_neD hu) fun _ _ _ _ h => eqD_run h
theorem DV.flat {K : PySem.W.Frag} {R : List Addr} {H : Hp} {d : D} {v : V} (h : DV K R H d v) (f : flatD d = true) : flatV v = true := by cases h <;> first | rfl | cases f
theorem DV.eqf {K : PySem.W.Frag} {R : List Addr} {H : Hp} {d e : D} {v u : V} (h : DV K R H d v) (h' : DV K R H e u) (f : flatD d = true) (f' : flatD e = true) : eqFlat d e = eqV v u := by
  cases h <;> cases h' <;> first | rfl | cases f | cases f'
theorem DVs.allFlat {K : PySem.W.Frag} {R : List Addr} {H : Hp} : ∀ {ds : List D} {vs : List V}, DVs K R H ds vs → ds.all flatD = true → vs.all flatV = true
  | _, _, .nil, _ => rfl
  | _, _, .cons a t, f => by
    simp only [List.all_cons, Bool.and_eq_true] at f ⊢
    exact ⟨a.flat f.1, DVs.allFlat t f.2⟩
theorem DVs.inD {K : PySem.W.Frag} {R : List Addr} {H : Hp} {x : D} {y : V} (hx : DV K R H x y) (fx : flatD x = true) : ∀ {ds : List D} {vs : List V}, DVs K R H ds vs → ds.all flatD = true → inD x ds = inV y vs
  | _, _, .nil, _ => rfl
  | _, _, .cons a t, f => by
    simp only [List.all_cons, Bool.and_eq_true] at f
    have ih := DVs.inD hx fx t f.2
    unfold SL.inD inV at *
    rw [List.any_cons, List.any_cons, ih, a.eqf hx f.1 fx]
/-- the items of a list or a tuple, told by the heap -/
theorem itemsOf_at {R : List Addr} {S : Sto} {H : Hp} {d : D} {v : V} {ds : List D} (r : RelX X R S H) (h : DV X.K R H d v) (e : itemsOf d S = some ds) :
    ∃ p xs, v = .ref p ∧ (SqL X.K H p xs ∨ SqT X.K H p xs) ∧ DVs X.K R H ds xs := by
  cases h with
  | tup s t => cases e; exact ⟨_, _, rfl, .inr s, t⟩
  | @ref n a hn =>
    have e' : (match S[n]? with
      | some (.lst ds) => some ds
      | _ => none) = some ds := e
    cases q : S[n]? with
    | none => rw [q] at e'; cases e'
    | some o =>
      rw [q] at e'
      cases o <;> first | cases e' | skip
      obtain ⟨vs, h1, h2⟩ := r.ob n a _ hn q
      exact ⟨a, vs, rfl, .inl (.of h1), h2⟩
  | _ => cases e
theorem in_run {neg : Bool} {x y : V} {H : Hp} {Q : VK} (h : liftO2 X (oIn neg) x y H Q) : rIn X.K neg x y H Q := by
  obtain ⟨R, S, d, e, r, hd, he, q⟩ := h
  unfold oIn at q
  cases q1 : itemsOf e S with
  | none => rw [q1] at q; exact False.elim q
  | some ds =>
    rw [q1] at q
    obtain ⟨p, xs, e1, e2, e3⟩ := itemsOf_at r he q1
    by_cases z : (flatD d && ds.all flatD) = true
    · simp only [z, if_true] at q
      obtain ⟨z1, z2⟩ := Bool.and_eq_true_iff.mp z
      refine ⟨p, xs, e1, e2, hd.flat z1, e3.allFlat z2, ?_⟩
      rw [← e3.inD hd z1 z2]
      exact OutO.pure q r _ (.bl _)
    · simp only [z] at q; exact False.elim q
theorem s_in : OpR X (compareOp .In) (liftO2 X (oIn false)) := OpR.mono op_in_seq fun _ _ _ _ h => in_run h
theorem s_notIn : OpR X (compareOp .NotIn) (liftO2 X (oIn true)) := OpR.mono op_notIn_seq fun _ _ _ _ h => in_run h
theorem s_inStr : OpR X (compareOp .In) (liftO2 X oInStr) := by
  refine OpR.mono op_in_str fun x y H Q ⟨R, S, d, e, r, hd, he, q⟩ => ?_
  cases d <;> cases e <;> first | exact False.elim q | skip
  exact ⟨_, _, hd.strv, he.strv, OutO.pure q r _ (.bl _)⟩
theorem DVs.atI {K : PySem.W.Frag} {R : List Addr} {H : Hp} {ds : List D} {vs : List V} {i : Int} {d : D} (h : DVs K R H ds vs) (e : atI ds i = some d) : ∃ v, atI vs i = some v ∧ DV K R H d v := by
  unfold L2.atI at *
  rw [← h.length]
  cases q : ixN ds.length i with
  | none => rw [q] at e; cases e
  | some j =>
    rw [q] at e
    exact h.get e
theorem s_ixT : IxR X (liftO2 X oIxT) := by
  refine IxR.mono ix_tup fun x y H Q ⟨R, S, d, e, r, hd, he, q⟩ => ?_
  cases d <;> cases e <;> first | exact False.elim q | skip
  rename_i ds i
  cases hd with
  | tup s t =>
    cases z : atI ds i with
    | none => rw [oIxT, z] at q; exact False.elim q
    | some d =>
      rw [oIxT, z] at q
      obtain ⟨v, e1, e2⟩ := t.atI z
      exact ⟨_, _, i, v, rfl, he.intv, s, e1, OutO.pure q r _ e2⟩
theorem s_ixL : IxR X (liftO2 X oIxL) := by
  refine IxR.mono ix_list fun x y H Q ⟨R, S, d, e, r, hd, he, q⟩ => ?_
  cases d <;> cases e <;> first | exact False.elim q | skip
  rename_i n i
  cases hd with
  | @ref _ a hn =>
    unfold oIxL at q
    cases q1 : S[n]? with
    | none => simp only [q1] at q; exact False.elim q
    | some o =>
      simp only [q1] at q
      cases o <;> first | exact False.elim q | skip
      rename_i ds
      obtain ⟨vs, h1, h2⟩ := r.ob n a _ hn q1
      cases z : atI ds i with
      | none => simp only [z] at q; exact False.elim q
      | some d =>
        simp only [z] at q
        obtain ⟨v, e1, e2⟩ := h2.atI z
        exact ⟨a, vs, i, v, rfl, he.intv, .of h1, e1, OutO.pure q r _ e2⟩
theorem DV.tupv {K : PySem.W.Frag} {R : List Addr} {H : Hp} {ds : List D} {v : V} (h : DV K R H (.tup ds) v) : ∃ a xs, v = .ref a ∧ SqT K H a xs ∧ DVs K R H ds xs := by
  cases h with
  | tup s t => exact ⟨_, _, rfl, s, t⟩
theorem DV.refv {K : PySem.W.Frag} {R : List Addr} {H : Hp} {n : Nat} {v : V} (h : DV K R H (.ref n) v) : ∃ a, v = .ref a ∧ R[n]? = some a := by
  cases h with
  | ref s => exact ⟨_, rfl, s⟩
theorem s_catT : OpR X (binaryOp .Add) (liftO2 X oCatT) := by
  refine OpR.mono op_catA fun x y H Q ⟨R, S, d, e, r, hd, he, q⟩ => ?_
  cases d <;> cases e <;> first | exact False.elim q | skip
  rename_i ds es
  obtain ⟨a, xs, rfl, s, t⟩ := hd.tupv
  obtain ⟨b, ys, rfl, s', t'⟩ := he.tupv
  by_cases z : ds.length + es.length < 1000000
  · simp only [oCatT, z, if_true] at q
    have ha := t.append t'
    refine ⟨a, b, xs, ys, rfl, rfl, s, s', by rw [← t.length, ← t'.length]; exact line_big z, fun e1 => ?_, fun e1 e2 => ?_, fun e1 e2 p hp => ?_⟩
    · subst e1
      exact OutO.pure q r _ (.tup (vs := ys) s' ha)
    · subst e2
      exact OutO.pure q r _ (.tup s (by simpa using ha))
    · exact q R _ (Ext.fresh hp) (r.fresh hp) _ (.tup (.of upd_same) (ha.ext r (Ext.fresh hp)))
  · simp only [oCatT, z] at q; exact False.elim q
theorem s_catL : OpR X (binaryOp .Add) (liftO2 X oCatL) := by
  refine OpR.mono op_cat fun x y H Q ⟨R, S, d, e, r, hd, he, q⟩ => ?_
  cases d <;> cases e <;> first | exact False.elim q | skip
  rename_i n m
  obtain ⟨a, rfl, hn⟩ := hd.refv
  obtain ⟨b, rfl, hm⟩ := he.refv
  unfold oCatL at q
  cases q1 : S[n]? with
  | none => simp only [q1] at q; exact False.elim q
  | some o =>
    cases q2 : S[m]? with
    | none => simp only [q1, q2] at q; cases o <;> exact False.elim q
    | some u =>
      simp only [q1, q2] at q
      cases o <;> first | exact False.elim q | skip
      cases u <;> first | exact False.elim q | skip
      rename_i ds es
      obtain ⟨vs, h1, h2⟩ := r.ob n a _ hn q1
      obtain ⟨us, h3, h4⟩ := r.ob m b _ hm q2
      by_cases z : ds.length + es.length < 1000000
      · simp only [z, if_true] at q
        refine ⟨a, b, vs, us, rfl, rfl, h1, h3, by rw [← h2.length, ← h4.length]; exact line_big z, fun p hp => ?_⟩
        exact q _ _ (Ext.push hp) (r.push hp ⟨_, upd_same, (h2.append h4).ext r (Ext.push hp)⟩) _ (.ref (get_last r))
      · simp only [z] at q; exact False.elim q
theorem no1 {f : OpN} {ds : List D} {S : Sto} (hn : ∀ d, ds ≠ [d]) (h0 : f [] S = none) (h2 : ∀ d e r, f (d :: e :: r) S = none) : f ds S = none := by
  cases ds with
  | nil => exact h0
  | cons d t =>
    cases t with
    | nil => exact absurd rfl (hn d)
    | cons e r => exact h2 d e r
theorem s_len : CallR X (.builtin "len") (liftON X oLen) := by
  refine callR1 call_len (fun _ _ => .inr trivial) (fun ds S hn => no1 hn rfl fun d e r => by cases d <;> rfl) fun R S H d v Q r a q => ?_
  by_cases hs : ∃ x, d = .str x
  · obtain ⟨x, rfl⟩ := hs
    cases a
    by_cases z : x.length < 1000000
    · simp only [oLen, z, if_true] at q
      exact ⟨_, x.length, rfl, ⟨line_big z, rfl⟩, OutO.pure q r _ (.int _)⟩
    · simp only [oLen, z] at q; exact False.elim q
  · have e : oLen [d] S = (itemsOf d S).map fun es => (.int es.length, S) := by
      cases d <;> first | rfl | exact absurd ⟨_, rfl⟩ hs
    rw [e] at q
    cases q1 : itemsOf d S with
    | none => rw [q1] at q; exact False.elim q
    | some es =>
      rw [q1] at q
      obtain ⟨p, ys, rfl, e2, e3⟩ := itemsOf_at r a q1
      refine ⟨.ref p, ys.length, rfl, ?_, ?_⟩
      · rcases e2 with e2 | e2
        · exact .inl ⟨ys, e2, rfl⟩
        · exact .inr ⟨ys, e2, rfl⟩
      · rw [← e3.length]
        exact OutO.pure q r _ (.int _)
theorem s_int : CallR X (.type "int") (liftON X oInt) := by
  refine callR1 call_int1 (fun _ _ => .inr trivial) (fun ds S hn => no1 hn rfl fun d e r => by cases d <;> rfl) fun R S H d v Q r a q => ?_
  cases a <;> first | exact False.elim q | skip
  · rename_i b
    exact .inr ⟨b, rfl, OutO.pure q r _ (.int _)⟩
  · rename_i i
    exact .inl ⟨i, rfl, OutO.pure q r _ (.int _)⟩
theorem DVs.bools {K : PySem.W.Frag} {R : List Addr} {H : Hp} : ∀ {ds : List D} {vs : List V} {bs : List Bool}, DVs K R H ds vs → boolsOf ds = some bs → vs = bs.map V.bl
  | _, _, _, .nil, e => by cases e; rfl
  | _, _, _, .cons a t, e => by
    cases a <;> first | cases e | skip
    rename_i ds vs b
    have e' : (boolsOf ds).map (b :: ·) = some _ := e
    cases q : boolsOf ds with
    | none => rw [q] at e'; cases e'
    | some bs => rw [q] at e'; cases e'; rw [DVs.bools t q]; rfl
theorem s_all (hc : X.calm = true) : CallR X (.builtin "all") (liftON X oAll) := by
  refine callR1 (cr_all hc) (fun _ _ => .inr trivial) (fun ds S hn => no1 hn rfl fun d e r => by cases d <;> rfl) fun R S H d v Q r a q => ?_
  cases a <;> first | exact False.elim q | skip
  rename_i n b hn
  unfold oAll at q
  cases q1 : S[n]? with
  | none => simp only [q1] at q; exact False.elim q
  | some o =>
    simp only [q1] at q
    cases o <;> first | exact False.elim q | skip
    rename_i es
    obtain ⟨vs, h1, h2⟩ := r.ob n b _ hn q1
    cases z : boolsOf es with
    | none => simp only [z] at q; exact False.elim q
    | some bs =>
      simp only [z] at q
      exact ⟨b, bs, rfl, by rw [← h2.bools z]; exact .of h1, OutO.pure q r _ (.bl _)⟩
theorem s_tupOf : CallR X (.type "tuple") (liftON X oTupOf) := by
  refine callR1 call_tuple_of (fun _ _ => .inr trivial) (fun ds S hn => no1 hn rfl fun d e r => rfl) fun R S H d v Q r a q => ?_
  unfold oTupOf at q
  cases q1 : itemsOf d S with
  | none => simp only [q1] at q; exact False.elim q
  | some es =>
    simp only [q1] at q
    obtain ⟨p, ys, rfl, e2, e3⟩ := itemsOf_at r a q1
    refine ⟨p, ys, rfl, ?_⟩
    rcases e2 with e2 | e2
    · refine .inl ⟨e2, fun l hl => ?_⟩
      exact q R _ (Ext.fresh hl) (r.fresh hl) _ (.tup (.of upd_same) (e3.ext r (Ext.fresh hl)))
    · exact .inr ⟨e2, OutO.pure q r _ (.tup e2 e3)⟩
end
end SL
set_option Elab.async false
set_option linter.all false
set_option maxRecDepth 100000
namespace SL
open PySem PySem.Spec PyProof.Rows L2

/-! ### functions -/
/-- a def that does what m does -/
structure FnA (P : Program) (w : World) (K : PySem.W.Frag) (mg : Str → Option Value) (base : Heap) (f : Addr) (ps : List Str) (dds : List D) (k : Nat) (m : List D → Sto → Res D) : Prop where
  ex : ∃ fd ds dvs, FnOk P w K mg base (L2.CX P w) k f fd ps (spD P w K ps.length m) ∧ Binds K fd ps ds ∧ Vals dvs ds ∧ ∀ R H, DVs K R H dds dvs
  kp : PySem.W.keepIn K (.ref f) = true
def eCall (n : Nat) (dds : List D) (m : List D → Sto → Res D) (a : MA) : ME := fun l S => (a l S).bind fun ds S1 => if (ds ++ dds).length = n then m (ds ++ dds) S1 else .bad
def noErr {α : Type} (r : Res α) : Res α := match r with
  | .err _ _ _ => .bad
  | x => x
def eMake (C : Str) (n : Nat) (m : List D → Sto → Res D) (a : MA) : ME := fun l S => (a l S).bind fun ds S1 => if ds.length + 1 = n then (noErr (m (.ref S1.length :: ds) (S1 ++ [.ins C []]))).bind fun r S2 => (if isNon r = true then .ok (.ref S1.length) S2 else .bad) else .bad
def eMeth (C f : Str) (n : Nat) (m : List D → Sto → Res D) (o : ME) (a : MA) : ME := fun l S => (o l S).bind fun d S1 => match d with
  | .ref r => match S1[r]? with
    | some (.ins C' fs) => if C' = C ∧ fs.lookup f = none then (a l S1).bind fun ds S2 => (if ds.length + 1 = n then m (.ref r :: ds) S2 else .bad) else .bad
    | _ => .bad
  | _ => .bad
def eFld (cs : List Str) (f : Str) (o : ME) : ME := fun l S => (o l S).bind fun d S1 => match d with
  | .ref r => match S1[r]? with
    | some (.ins C fs) => if cs.contains C then (match fs.lookup f with
      | some x => .ok x S1
      | none => .bad) else .bad
    | _ => .bad
  | _ => .bad
/-- either of two readings of one expression -/
def eAlt (a b : ME) : ME := fun l S => match a l S with
  | .bad => b l S
  | x => x

section
variable {P : Program} {w : World} {K : PySem.W.Frag} {R R' : List Addr} {S S' : Sto} {H H' : Hp}
theorem PD.lookup {f : Str} {d : D} : ∀ {fs : List (Str × D)} {gs : List (Str × V)}, PD K R H fs gs → fs.lookup f = some d → ∃ v, gs.lookup f = some v ∧ DV K R H d v
  | _, _, .nil, e => by cases e
  | (g, x) :: _, (g', y) :: _, .cons ⟨h1, h2⟩ t, e => by
    have h1' : g = g' := h1
    subst h1'
    simp only [List.lookup] at e ⊢
    cases q : f == g with
    | true => rw [q] at e; cases e; exact ⟨y, rfl, h2⟩
    | false => rw [q] at e; exact PD.lookup t e
theorem PD.lookupN {f : Str} : ∀ {fs : List (Str × D)} {gs : List (Str × V)}, PD K R H fs gs → fs.lookup f = none → gs.lookup f = none
  | _, _, .nil, e => rfl
  | (g, x) :: _, (g', y) :: _, .cons ⟨h1, h2⟩ t, e => by
    have h1' : g = g' := h1
    subst h1'
    simp only [List.lookup] at e ⊢
    cases q : f == g with
    | true => rw [q] at e; cases e
    | false => rw [q] at e; exact PD.lookupN t e
/-- a new instance, with its own dict -/
theorem Rel.made (r : Rel P w K R S H) {C : Str} {x dx : Addr} (hx : H x = none) (hd : H dx = none) (ne : dx ≠ x) :
    Rel P w K (R ++ [x]) (S ++ [.ins C []]) (upd (upd H dx (.own x)) x (.ins (He.ga K C) dx [])) ∧ Ext R H (R ++ [x]) (upd (upd H dx (.own x)) x (.ins (He.ga K C) dx [])) := by
  have r1 : Rel P w K R S (upd H dx (.own x)) := r.fresh hd
  have hx1 : upd H dx (.own x) x = none := by rw [upd_ne (Ne.symm ne)]; exact hx
  refine ⟨r1.push hx1 ⟨dx, [], upd_same, .nil⟩, ?_⟩
  exact Ext.trans (Ext.fresh hd) (Ext.push hx1) r1.some
end
theorem noErr_out {X : Cx} {α : Type} {r : Res α} {R : List Addr} {H : Hp} {W W' : Value → Option Addr → Hp → Prop} {Q : α → Sto → List Addr → Hp → Prop} (h : Out X (noErr r) R H W Q) : Out X r R H W' Q := by
  cases r with
  | ok a S => exact h
  | err _ _ _ => exact False.elim h
  | bad => exact h

section
variable {X : Cx} {pos apos p : Pos} {a b o e : Expr} {es : List Expr} {ma mb mo : ME} {mA : MA} {x f : Str} {C : Str} {ps : List Str} {dds : List D} {j k : Nat} {m : List D → Sto → Res D}
theorem se_alt (ha : SE X a ma) (hb : SE X a mb) : SE X a (eAlt ma mb) := ⟨fun W tk => by
  refine ⟨fun pins s σ H Q I ⟨R, S, l, r, hl, q⟩ => ?_⟩
  unfold eAlt at q
  cases z : ma l S with
  | bad => rw [z] at q; exact (hb.run W tk).run pins s σ H Q I ⟨R, S, l, r, hl, q⟩
  | ok d S1 => rw [z] at q; exact (ha.run W tk).run pins s σ H Q I ⟨R, S, l, r, hl, by rw [z]; exact q⟩
  | err c fs S1 => rw [z] at q; exact (ha.run W tk).run pins s σ H Q I ⟨R, S, l, r, hl, by rw [z]; exact q⟩⟩
/-- what a call of the layer asks, from what the function gives -/
theorem sp_of {W : WX} {σ : L2.St} {R : List Addr} {S : Sto} {H : Hp} {ds : List D} {vs : List V} {n : Nat} {Q : VK} (r : RelX X R S H) (hv : DVs X.K R H ds vs) (hn : ds.length = n)
    (q : Out X (m ds S) R H (fun c d H' => W c d σ H') fun d _ R' H' => ∀ v, DV X.K R' H' d v → Q v H') : spD X.prog X.w X.K n m vs H Q (WE W σ) := ⟨by rw [← hv.length]; exact hn, R, S, ds, r, hv, q⟩
theorem se_call (F : FnA X.prog X.w X.K X.mg X.base (He.ga X.K x) ps dds j m) (hr : Room k X.A) (hg : Gl X x) (hm : X.mg x = some (.ref (He.ga X.K x))) (ha : SA X (a :: es) mA) (hj : j ≤ k := by decide) (hdb : (x == ("__debug__" : Str)) = false := by decide)
    (he : starEach (a :: es) X.env = (false, eval a X.env) :: starEach es X.env := by rfl) (hpl : (backTo pos (starEach es X.env)).any (·.1) = false := by rfl) :
    SE X (.Call (.Name x p) (a :: es) [] pos) (eCall ps.length dds m mA) := ⟨fun W tk => by
  obtain ⟨⟨fd, ds, dvs, F, hb, hd, hdd⟩, kp⟩ := F
  refine PE.mono (pe_callSD (E := fun σ => WE W σ) F (hr.mono hj) hg hm kp hb hd (fun σ => passAt tk σ) (ha.run W tk) hdb he hpl) fun σ H Q ⟨R, S, l, r, hl, h⟩ => ?_
  refine ⟨R, S, l, r, hl, (Out.bind h).imp fun ds S1 R1 H1 x1 r1 q vs hvs => ?_⟩
  by_cases z : (ds ++ dds).length = ps.length
  · rw [if_pos z] at q
    exact sp_of r1 (hvs.append (hdd _ _)) z q
  · rw [if_neg z] at q; exact False.elim q⟩
/-- making an instance -/
theorem se_make (M : Mk X.K (He.ga X.K C) f') (F : FnA X.prog X.w X.K X.mg X.base f' ps [] j m) (hr : Room k X.A) (hg : Gl X C) (hm : X.mg C = some (.ref (He.ga X.K C))) (ha : SA X (a :: es) mA) (hj : j + 1 ≤ k := by decide) (hdb : (C == ("__debug__" : Str)) = false := by decide)
    (he : starEach (a :: es) X.env = (false, eval a X.env) :: starEach es X.env := by rfl) (hpl : (backTo pos (starEach es X.env)).any (·.1) = false := by rfl) :
    SE X (.Call (.Name C p) (a :: es) [] pos) (eMake C ps.length m mA) := ⟨fun W tk => by
  obtain ⟨⟨fd, ds, dvs, F, hb, hd, hdd⟩, kp⟩ := F
  have hz : dvs = [] := by
    have q : DVs X.K [] (fun _ => none) [] dvs := hdd _ _
    cases q
    rfl
  refine PE.mono (pe_make (E := fun _ _ _ => False) M F (hr.mono hj) hg hm hb hd passL (ha.run W tk) hdb he hpl) fun σ H Q ⟨R, S, l, r, hl, h⟩ => ?_
  refine ⟨R, S, l, r, hl, (Out.bind h).imp fun ds S1 R1 H1 x1 r1 q vs hvs => ?_⟩
  by_cases z : ds.length + 1 = ps.length
  · rw [if_pos z] at q
    intro x dx hx hdx ne
    obtain ⟨r2, x2⟩ := Rel.made r1 (C := C) hx hdx ne
    have hx0 : DV X.K (R1 ++ [x]) (upd (upd H1 dx (.own x)) x (.ins (He.ga X.K C) dx [])) (.ref S1.length) (.ref x) := .ref (get_last r1)
    subst hz
    rw [List.append_nil]
    refine ⟨by rw [List.length_cons, ← hvs.length]; exact z, R1 ++ [x], S1 ++ [.ins C []], .ref S1.length :: ds, r2, .cons hx0 (hvs.ext r1 x2), ?_⟩
    have q2 := Out.shift q x2 r2.some
    exact noErr_out ((Out.bind q2).imp fun d S3 R3 H3 x3 r3 q3 v hv => by
      by_cases zd : isNon d = true
      · rw [if_pos zd] at q3
        refine ⟨?_, Out.pure q3 r3 _ (hx0.ext r2 x3)⟩
        rw [hv.isN] at zd
        exact of_decide_eq_true zd
      · rw [if_neg zd] at q3; exact False.elim q3)
  · rw [if_neg z] at q; exact False.elim q⟩
/-- o.m(e, ..), what is raised is wished for at the caller's slots -/
def tMethSD (C : Addr) (m : Str) (sp : Sp) (dvs : List V) (E : L2.St → XK) (ta : TE) (t : TA) : TE := fun σ H Q => ta σ H fun x H1 => ∃ b dx fs, x = .ref b ∧ H1 b = some (.ins C dx fs) ∧ fs.lookup m = none ∧ t σ H1 fun vs H2 => sp (x :: (vs ++ dvs)) H2 Q (E σ)
theorem pe_methSD {pl : Sem Bool} {D : Addr} {g : Addr} {nm : Str} {fd : FuncData} {qs : List Str} {sp : Sp} {dvs : List V} {ds : List Value} {E : L2.St → XK} {ta : TE} {t : TA} (he : PE X o ta) (c : Cls X.K D) (hm : Meth X.K D nm g) (F : FnOk X.prog X.w X.K X.mg X.base (L2.CX X.prog X.w) j g fd qs sp)
    (hr : Room j X.A) (hb : Binds X.K fd qs ds) (hd : Vals dvs ds) (hx : ∀ σ, PassesAt (L2.CX X.prog X.w) X σ (E σ)) (ha : PA X (e :: es) t)
    (hst : starEach (e :: es) X.env = (false, eval e X.env) :: starEach es X.env) (hpl : (backTo pos (starEach es X.env)).any (·.1) = false)
    (ht : eval (.Call (.Attribute o nm apos) (e :: es) [] pos) X.env = (eval o X.env >>= fun ov => standAt apos.atName >>= fun _ => holding [ov] (getMethod ov nm pl) >>= fun q => callWith pos q.1 q.2 (backTo pos (starEach (e :: es) X.env)) (backToKw pos (keywordEach [] X.env)))) :
    PE X (.Call (.Attribute o nm apos) (e :: es) [] pos) (tMethSD D nm sp dvs E ta t) := ⟨fun pins s σ H Q I h => by
  refine PySem.W.methodCall_KW (pl := pl) (thn (he.run pins s σ H _ I h) fun u s1 hq => ?_) ht
  obtain ⟨x, H1, I1, rx, b, dx, fs, e1, e2, e3, q⟩ := hq
  subst e1
  obtain rfl : u = Value.ref b := rx
  refine getmeth_ok I1 e2 c hm e3 ?_
  refine PySem.W.callWith_K (first := [.ref b]) (h₀ := X.base) I.ok.mod.kin hm.kp (thn (ha.run pos pins s1 σ H1 _ I1 q) fun us s2 hq2 => ?_) hst hpl
  obtain ⟨vs, H2, I2, r2, q2⟩ := hq2
  exact ⟨I2.kIn, run_fnSD (us := .ref b :: us) (vs := .ref b :: vs) F hr hb hd (hx σ) I2 (.cons rfl r2) q2⟩⟩
theorem pe_methSD0 {pl : Sem Bool} {D : Addr} {g : Addr} {nm : Str} {fd : FuncData} {qs : List Str} {sp : Sp} {dvs : List V} {ds : List Value} {E : L2.St → XK} {ta : TE} (he : PE X o ta) (c : Cls X.K D) (hm : Meth X.K D nm g) (F : FnOk X.prog X.w X.K X.mg X.base (L2.CX X.prog X.w) j g fd qs sp)
    (hr : Room j X.A) (hb : Binds X.K fd qs ds) (hd : Vals dvs ds) (hx : ∀ σ, PassesAt (L2.CX X.prog X.w) X σ (E σ))
    (ht : eval (.Call (.Attribute o nm apos) [] [] pos) X.env = (eval o X.env >>= fun ov => standAt apos.atName >>= fun _ => holding [ov] (getMethod ov nm pl) >>= fun q => callWith pos q.1 q.2 (backTo pos (starEach [] X.env)) (backToKw pos (keywordEach [] X.env)))) :
    PE X (.Call (.Attribute o nm apos) [] [] pos) (tMethSD D nm sp dvs E ta tNil) := ⟨fun pins s σ H Q I h => by
  refine PySem.W.methodCall_KW (pl := pl) (thn (he.run pins s σ H _ I h) fun u s1 hq => ?_) ht
  obtain ⟨x, H1, I1, rx, b, dx, fs, e1, e2, e3, q⟩ := hq
  subst e1
  obtain rfl : u = Value.ref b := rx
  refine getmeth_ok I1 e2 c hm e3 ?_
  exact PySem.W.callWith_K0 (first := [.ref b]) I1.kIn hm.kp (run_fnSD (us := [.ref b]) (vs := [.ref b]) F hr hb hd (hx σ) I1 (.cons rfl .nil) q)⟩
theorem meth_run {nm : Str} {W : WX} {dvs : List V} (hz : dvs = []) (σ : L2.St) (H : Hp) (Q : VK) (h : liftE X (eMeth C nm ps.length m mo mA) W σ H Q) :
    tMethSD (He.ga X.K C) nm (spD X.prog X.w X.K ps.length m) dvs (fun σ => WE W σ) (liftE X mo W) (liftA X mA W) σ H Q := by
  obtain ⟨R, S, l, r, hl, h⟩ := h
  refine ⟨R, S, l, r, hl, (Out.bind h).imp fun d S1 R1 H1 x1 r1 q v hv => ?_⟩
  cases d <;> first | exact False.elim q | skip
  rename_i n
  obtain ⟨b, rfl, hn⟩ := hv.refv
  cases q1 : S1[n]? with
  | none => simp only [q1] at q; exact False.elim q
  | some o =>
    simp only [q1] at q
    cases o <;> first | exact False.elim q | skip
    rename_i C' fs
    by_cases z : C' = C ∧ fs.lookup nm = none
    · dsimp only at q
      rw [if_pos z] at q
      obtain ⟨rfl, z2⟩ := z
      obtain ⟨dx, gs, h1, h2⟩ := r1.ob n b _ hn q1
      refine ⟨b, dx, gs, rfl, h1, h2.lookupN z2, R1, S1, l, r1, hl.ext r x1, (Out.bind q).imp fun ds S2 R2 H2 x2 r2 q2 vs hvs => ?_⟩
      by_cases z3 : ds.length + 1 = ps.length
      · rw [if_pos z3] at q2
        subst hz
        rw [List.append_nil]
        exact sp_of r2 (.cons (hv.ext r1 x2) hvs) z3 q2
      · rw [if_neg z3] at q2; exact False.elim q2
    · dsimp only at q
      rw [if_neg z] at q; exact False.elim q
theorem no_dfl {K : PySem.W.Frag} {dvs : List V} (h : ∀ R H, DVs K R H [] dvs) : dvs = [] := by
  have q := h [] (fun _ => none)
  cases q
  rfl
theorem se_meth {pl : Sem Bool} {nm : Str} {g : Addr} (ho : SE X o mo) (c : Cls X.K (He.ga X.K C)) (hm : Meth X.K (He.ga X.K C) nm g) (F : FnA X.prog X.w X.K X.mg X.base g ps [] j m) (hr : Room k X.A) (ha : SA X (e :: es) mA) (hj : j ≤ k := by decide)
    (hst : starEach (e :: es) X.env = (false, eval e X.env) :: starEach es X.env := by rfl) (hpl : (backTo pos (starEach es X.env)).any (·.1) = false := by rfl)
    (ht : eval (.Call (.Attribute o nm apos) (e :: es) [] pos) X.env = (eval o X.env >>= fun ov => standAt apos.atName >>= fun _ => holding [ov] (getMethod ov nm pl) >>= fun q => callWith pos q.1 q.2 (backTo pos (starEach (e :: es) X.env)) (backToKw pos (keywordEach [] X.env))) := by rfl) :
    SE X (.Call (.Attribute o nm apos) (e :: es) [] pos) (eMeth C nm ps.length m mo mA) := ⟨fun W tk => by
  obtain ⟨⟨fd, ds, dvs, F, hb, hd, hdd⟩, kp⟩ := F
  exact PE.mono (pe_methSD (E := fun σ => WE W σ) (pl := pl) (ho.run W tk) c hm F (hr.mono hj) hb hd (fun σ => passAt tk σ) (ha.run W tk) hst hpl ht) fun σ H Q h => meth_run (no_dfl hdd) σ H Q h⟩
theorem se_meth0 {pl : Sem Bool} {nm : Str} {g : Addr} (ho : SE X o mo) (c : Cls X.K (He.ga X.K C)) (hm : Meth X.K (He.ga X.K C) nm g) (F : FnA X.prog X.w X.K X.mg X.base g ps [] j m) (hr : Room k X.A) (hj : j ≤ k := by decide)
    (ht : eval (.Call (.Attribute o nm apos) [] [] pos) X.env = (eval o X.env >>= fun ov => standAt apos.atName >>= fun _ => holding [ov] (getMethod ov nm pl) >>= fun q => callWith pos q.1 q.2 (backTo pos (starEach [] X.env)) (backToKw pos (keywordEach [] X.env))) := by rfl) :
    SE X (.Call (.Attribute o nm apos) [] [] pos) (eMeth C nm ps.length m mo aNil) := ⟨fun W tk => by
  obtain ⟨⟨fd, ds, dvs, F, hb, hd, hdd⟩, kp⟩ := F
  refine PE.mono (pe_methSD0 (E := fun σ => WE W σ) (pl := pl) (ho.run W tk) c hm F (hr.mono hj) hb hd (fun σ => passAt tk σ) ht) fun σ H Q h => ?_
  have h2 := meth_run (no_dfl hdd) σ H Q h
  obtain ⟨R, S, l, r, hl, h2⟩ := h2
  refine ⟨R, S, l, r, hl, h2.imp fun d S1 R1 H1 x1 r1 q v hv => ?_⟩
  obtain ⟨b, dx, fs, e1, e2, e3, R3, S3, l3, r3, hl3, h3⟩ := q v hv
  exact ⟨b, dx, fs, e1, e2, e3, Out.pure h3 r3 [] .nil⟩⟩
/-- a field that is read -/
structure FldOk (K : PySem.W.Frag) (C f : Str) : Prop where
  cls : Cls K (He.ga K C)
  no : NoAttr K (He.ga K C) f
theorem se_fld {cs : List Str} (ho : SE X o mo) (hc : ∀ C ∈ cs, FldOk X.K C f) (hb : attributeBase o f X.env (eval o X.env) = eval o X.env := by rfl) : SE X (.Attribute o f pos) (eFld cs f mo) := ⟨fun W tk => by
  refine PE.mono (pe_fld (ho.run W tk) hb) fun σ H Q ⟨R, S, l, r, hl, h⟩ => ?_
  refine ⟨R, S, l, r, hl, (Out.bind h).imp fun d S1 R1 H1 x1 r1 q v hv => ?_⟩
  cases d <;> first | exact False.elim q | skip
  rename_i n
  obtain ⟨b, rfl, hn⟩ := hv.refv
  cases q1 : S1[n]? with
  | none => simp only [q1] at q; exact False.elim q
  | some o =>
    simp only [q1] at q
    cases o <;> first | exact False.elim q | skip
    rename_i C fs
    by_cases z : cs.contains C = true
    · simp only [z, if_true] at q
      obtain ⟨dx, gs, h1, h2⟩ := r1.ob n b _ hn q1
      cases q2 : fs.lookup f with
      | none => simp only [q2] at q; exact False.elim q
      | some y =>
        simp only [q2] at q
        obtain ⟨u, h3, h4⟩ := h2.lookup q2
        have ok := hc C (List.contains_iff_mem.mp z)
        exact ⟨b, _, dx, gs, u, rfl, h1, ok.cls, ok.no, h3, Out.pure q r1 _ h4⟩
    · simp only [z] at q; exact False.elim q⟩
end
end SL
set_option Elab.async false
set_option linter.all false
set_option maxRecDepth 100000
namespace SL
open PySem PySem.Spec PyProof.Rows L2

/-! ### slices -/
abbrev MP := Loc → Sto → Res (Option Int)
def pNone : MP := fun _ S => .ok none S
def pSome (a : ME) : MP := fun l S => (a l S).bind fun d S1 => match d with
  | .int i => .ok (some i) S1
  | _ => .bad
abbrev OpS := D → Option Int → Option Int → Sto → Option (D × Sto)
def eSl (f : OpS) (a : ME) (lo hi : MP) : ME := fun l S => (a l S).bind fun d S1 => (lo l S1).bind fun i S2 => (hi l S2).bind fun j S3 => ofO (f d i j S3)
def cutD (xs : List D) (lo hi : Option Int) : List D := (xs.drop (HT.sIx xs.length 0 lo)).take (HT.sIx xs.length xs.length hi - HT.sIx xs.length 0 lo)
def oSlT : OpS := fun d i j S => match d with
  | .tup ds => some (.tup (cutD ds i j), S)
  | _ => none
def oSlL : OpS := fun d i j S => match d with
  | .ref n => match S[n]? with
    | some (.lst ds) => some (.ref S.length, S ++ [.lst (cutD ds i j)])
    | _ => none
  | _ => none
def oRevL : Op1 := fun d S => match d with
  | .ref n => match S[n]? with
    | some (.lst ds) => some (.ref S.length, S ++ [.lst ds.reverse])
    | _ => none
  | _ => none
section
variable (X : Cx)
def liftP (m : MP) (W : WX) : TO := fun σ H Q => ∃ R S l, RelX X R S H ∧ LocR X.K R H l σ ∧ Out X (m l S) R H (fun c d H' => W c d σ H') fun o _ R' H' => Q o H'
def liftOS (f : OpS) : V → Option Int → Option Int → Hp → VK → Prop := fun x i j H Q => ∃ R S d, RelX X R S H ∧ DV X.K R H d x ∧ OutO X (f d i j S) R H fun d' _ R' H' => ∀ v, DV X.K R' H' d' v → Q v H'
structure SP' (e : Option Expr) (m : MP) : Prop where
  run : ∀ W : WX, Takes X W → PO X e (liftP X m W)
end
section
variable {X : Cx} {pos p2 : Pos} {e : Expr} {ma : ME} {lo hi : Option Expr} {ml mh : MP}
theorem PO.mono {o : Option Expr} {t t' : TO} (h : PO X o t) (f : ∀ σ H Q, t' σ H Q → t σ H Q) : PO X o t' := ⟨fun pins s σ H Q I q => h.run pins s σ H Q I (f σ H Q q)⟩
theorem SlR.mono {r r' : V → Option Int → Option Int → Hp → VK → Prop} (h : SlR X r) (f : ∀ x i j H Q, r' x i j H Q → r x i j H Q) : SlR X r' := fun pins s σ H x v vl vu lo hi sl Q I rx hs pl pu q => h pins s σ H x v vl vu lo hi sl Q I rx hs pl pu (f _ _ _ _ _ q)
theorem sp_none : SP' X none pNone := ⟨fun W tk => PO.mono po_none fun σ H Q ⟨R, S, l, r, hl, q⟩ => Out.pure (W := fun c d H' => W c d σ H') q r⟩
theorem sp_some (h : SE X e ma) : SP' X (some e) (pSome ma) := ⟨fun W tk => PO.mono (po_some (h.run W tk)) fun σ H Q ⟨R, S, l, r, hl, q⟩ => by
  refine ⟨R, S, l, r, hl, (Out.bind q).imp fun d S1 R1 H1 x1 r1 q v hv => ?_⟩
  cases d <;> first | exact False.elim q | skip
  exact ⟨_, hv.intv, Out.pure q r1⟩⟩
theorem se_sl {f : OpS} (hf : SlR X (liftOS X f)) (he : SE X e ma) (hl : SP' X lo ml) (hh : SP' X hi mh) : SE X (.Subscript e (.Slice lo hi none p2) pos) (eSl f ma ml mh) := ⟨fun W tk => by
  refine PE.mono (pe_slice hf (he.run W tk) (hl.run W tk) (hh.run W tk)) fun σ H Q ⟨R, S, l, r, hl, q⟩ => ?_
  refine ⟨R, S, l, r, hl, (Out.bind q).imp fun d S1 R1 H1 x1 r1 q v hv => ⟨R1, S1, l, r1, hl.ext r x1, (Out.bind q).imp fun i S2 R2 H2 x2 r2 q => ⟨R2, S2, l, r2, (hl.ext r x1).ext r1 x2, (Out.bind q).imp fun j S3 R3 H3 x3 r3 q => ?_⟩⟩⟩
  exact ⟨R3, S3, d, r3, (hv.ext r1 x2).ext r2 x3, Out.ofO q⟩⟩
theorem DVs.cut {K : PySem.W.Frag} {R : List Addr} {H : Hp} {ds : List D} {vs : List V} (h : DVs K R H ds vs) (lo hi : Option Int) : DVs K R H (cutD ds lo hi) (cutV vs lo hi) := by
  unfold cutD cutV
  rw [h.length]
  exact (h.drop _).take _
theorem sIx_full {n : Nat} {vs : List V} {lo hi : Option Int} (hn : vs.length = n) (h : HT.sIx n 0 lo = 0 ∧ HT.sIx n n hi = n) : cutV vs lo hi = vs := by
  unfold cutV
  rw [hn, h.1, h.2]
  simp [← hn]
theorem s_slT : SlR X (liftOS X oSlT) := by
  refine SlR.mono sl_tupA fun x i j H Q ⟨R, S, d, r, hd, q⟩ => ?_
  cases d <;> first | exact False.elim q | skip
  obtain ⟨a, xs, rfl, s, t⟩ := hd.tupv
  refine ⟨a, xs, rfl, s, fun hf => ?_, fun _ p hp => ?_⟩
  · have h2 := t.cut i j
    rw [sIx_full rfl hf] at h2
    exact OutO.pure q r _ (.tup s h2)
  · exact q R _ (Ext.fresh hp) (r.fresh hp) _ (.tup (.of upd_same) ((t.cut i j).ext r (Ext.fresh hp)))
theorem s_slL : SlR X (liftOS X oSlL) := by
  refine SlR.mono sl_list fun x i j H Q ⟨R, S, d, r, hd, q⟩ => ?_
  cases d <;> first | exact False.elim q | skip
  rename_i n
  obtain ⟨a, rfl, hn⟩ := hd.refv
  unfold oSlL at q
  cases q1 : S[n]? with
  | none => simp only [q1] at q; exact False.elim q
  | some o =>
    simp only [q1] at q
    cases o <;> first | exact False.elim q | skip
    obtain ⟨vs, h1, h2⟩ := r.ob n a _ hn q1
    refine ⟨a, vs, rfl, .of h1, fun p hp => ?_⟩
    exact q _ _ (Ext.push hp) (r.push hp ⟨_, upd_same, (h2.cut i j).ext r (Ext.push hp)⟩) _ (.ref (get_last r))
theorem se_rev {k : Nat} {p1 p2 p3 : Pos} (he : SE X e ma) : SE X (.Subscript e (.Slice none none (some (.UnaryOp .USub (.Constant (.int 1) k p1) p2)) p3) pos) (eOp1 oRevL ma) := ⟨fun W tk => by
  refine PE.mono (pe_revL (he.run W tk)) fun σ H Q ⟨R, S, l, r, hl, q⟩ => ?_
  refine ⟨R, S, l, r, hl, (Out.bind q).imp fun d S1 R1 H1 x1 r1 q v hv => ?_⟩
  replace q := Out.ofO q
  cases d <;> first | exact False.elim q | skip
  rename_i n
  obtain ⟨a, rfl, hn⟩ := hv.refv
  unfold oRevL at q
  cases q1 : S1[n]? with
  | none => simp only [q1] at q; exact False.elim q
  | some o =>
    simp only [q1] at q
    cases o <;> first | exact False.elim q | skip
    obtain ⟨vs, h1, h2⟩ := r1.ob n a _ hn q1
    refine ⟨a, vs, rfl, .of h1, fun p hp => ?_⟩
    exact q _ _ (Ext.push hp) (r1.push hp ⟨_, upd_same, h2.reverse.ext r1 (Ext.push hp)⟩) _ (.ref (get_last r1))⟩
theorem se_un {op : UnaryOp} {f : Op1} (ho : UnR X (unaryOp op) (liftO1 X f)) (ha : SE X e ma) : SE X (.UnaryOp op e pos) (eOp1 f ma) := ⟨fun W tk => by
  refine PE.mono (pe_un ho (ha.run W tk)) fun σ H Q ⟨R, S, l, r, hl, q⟩ => ?_
  exact ⟨R, S, l, r, hl, (Out.bind q).imp fun d S1 R1 H1 x1 r1 q v hv => ⟨R1, S1, d, r1, hv, Out.ofO q⟩⟩⟩
theorem s_neg : UnR X (unaryOp .USub) (liftO1 X oNeg) := fun pins s σ H x v Q I rx h => by
  refine un_neg pins s σ H x v Q I rx ?_
  obtain ⟨R, S, d, r, hd, q⟩ := h
  cases d <;> first | exact False.elim q | skip
  exact ⟨_, hd.intv, OutO.pure q r _ (.int _)⟩
end

/-! ### a built-in type's methods -/
abbrev OpM := D → List D → Sto → Option (D × Sto)
def eBM (T : String) (f : OpM) (o : ME) (a : MA) : ME := fun l S => (o l S).bind fun d S1 => match d with
  | .ref n => match S1[n]?, T == "list", T == "dict" with
    | some (.lst _), true, _ => (a l S1).bind fun ds S2 => ofO (f d ds S2)
    | some (.dK _), _, true => (a l S1).bind fun ds S2 => ofO (f d ds S2)
    | _, _, _ => .bad
  | _ => .bad
def oAppend : OpM := fun d ds S => match d, ds with
  | .ref n, [x] => match S[n]? with
    | some (.lst es) => if es.length < 1000000 then some (.non, S.set n (.lst (es ++ [x]))) else none
    | _ => none
  | _, _ => none
def oPop : OpM := fun d ds S => match d, ds with
  | .ref n, [] => match S[n]? with
    | some (.lst es) => (es[es.length - 1]?).map fun x => (x, S.set n (.lst es.dropLast))
    | _ => none
  | _, _ => none
def oExtend : OpM := fun d ds S => match d, ds with
  | .ref n, [.ref m] => match S[n]?, S[m]? with
    | some (.lst es), some (.lst gs) => if es.length + gs.length < 1000000 then some (.non, S.set n (.lst (es ++ gs))) else none
    | _, _ => none
  | _, _ => none
section
variable (X : Cx)
def liftOM (f : OpM) : V → List V → Hp → VK → Prop := fun x xs H Q => ∃ R S d ds, RelX X R S H ∧ DV X.K R H d x ∧ DVs X.K R H ds xs ∧ OutO X (f d ds S) R H fun d' _ R' H' => ∀ v, DV X.K R' H' d' v → Q v H'
end
section
variable {X : Cx} {apos cpos : Pos} {o e : Expr} {es : List Expr} {mo : ME} {mA : MA} {name : Str} {T id : String} {f : OpM}
theorem MtR.mono {r r' : V → List V → Hp → VK → Prop} (h : MtR X id r) (g : ∀ x xs H Q, r' x xs H Q → r x xs H Q) : MtR X id r' := fun pins s σ H x xs v us Q I rx rs q => h pins s σ H x xs v us Q I rx rs (g _ _ _ _ q)
theorem bm_run {W : WX} {σ : L2.St} {H : Hp} {Q : VK} (h : liftE X (eBM T f mo mA) W σ H Q) : tBM X.K T (liftOM X f) (liftE X mo W) (liftA X mA W) σ H Q := by
  obtain ⟨R, S, l, r, hl, h⟩ := h
  refine ⟨R, S, l, r, hl, (Out.bind h).imp fun d S1 R1 H1 x1 r1 q v hv => ?_⟩
  cases d <;> first | exact False.elim q | skip
  rename_i n
  obtain ⟨b, rfl, hn⟩ := hv.refv
  have fin : ∀ q : Out X ((mA l S1).bind fun ds S2 => ofO (f (.ref n) ds S2)) R1 H1 (fun c d H' => W c d σ H') fun d x R' H' => ∀ (v : V), DV X.K R' H' d v → Q v H',
      liftA X mA W σ H1 fun xs H2 => liftOM X f (.ref b) xs H2 Q := fun q =>
    ⟨R1, S1, l, r1, hl.ext r x1, (Out.bind q).imp fun ds S2 R2 H2 x2 r2 q2 vs hvs => ⟨R2, S2, .ref n, ds, r2, hv.ext r1 x2, hvs, Out.ofO q2⟩⟩
  cases q1 : S1[n]? with
  | none => simp only [q1] at q; exact False.elim q
  | some u =>
    simp only [q1] at q
    cases u <;> first | exact False.elim q | skip
    · cases hT : T == "list" with
      | false => simp only [hT] at q; cases h2 : T == "dict" <;> first | exact False.elim q | (simp only [h2] at q; exact False.elim q)
      | true =>
        simp only [hT] at q
        obtain ⟨vs, h1, h2⟩ := r1.ob n b _ hn q1
        exact ⟨.inl ⟨beq_iff_eq.mp hT, vs, .of h1⟩, fin q⟩
    · cases hT : T == "dict" with
      | false => simp only [hT] at q; cases h2 : T == "list" <;> first | exact False.elim q | (simp only [h2] at q; exact False.elim q)
      | true =>
        simp only [hT] at q
        obtain ⟨vs, h1, h2⟩ := r1.ob n b _ hn q1
        exact ⟨.inr (.inr (.inl ⟨beq_iff_eq.mp hT, .inl ⟨vs, h1⟩⟩)), fin q⟩
theorem se_bm (pa : PlainAttrs T) (slot : Slot T name id) (hty : typeOf (.builtin id) = pure (.type "method_descriptor")) (hm : MtR X id (liftOM X f)) (ho : SE X o mo) (ha : SA X (e :: es) mA)
    (hbase : attributeBase o name X.env (eval o X.env) = eval o X.env := by rfl)
    (hfew : ((backTo cpos (starEach (e :: es) X.env)).all (fun x => !x.1) && (backToKw cpos (keywordEach [] X.env)).all (fun x => x.1.isSome) && decide ((e :: es).length + ([] : List Keyword).length + (if ([] : List Keyword).isEmpty then 0 else 1) < 30)) = true := by rfl)
    (hline : (apos.endLine == cpos.line) = true := by rfl) (hs : starEach (e :: es) X.env = (false, eval e X.env) :: starEach es X.env := by rfl) (hplain : (backTo cpos (starEach es X.env)).any (·.1) = false := by rfl) :
    SE X (.Call (.Attribute o name apos) (e :: es) [] cpos) (eBM T f mo mA) := ⟨fun W tk => PE.mono (pe_bm pa slot hty hm (ho.run W tk) (ha.run W tk) hbase hfew hline hs hplain) fun σ H Q h => bm_run h⟩
theorem se_bm0 (pa : PlainAttrs T) (slot : Slot T name id) (hty : typeOf (.builtin id) = pure (.type "method_descriptor")) (hm : MtR X id (liftOM X f)) (ho : SE X o mo)
    (hbase : attributeBase o name X.env (eval o X.env) = eval o X.env := by rfl) (hline : (apos.endLine == cpos.line) = true := by rfl) : SE X (.Call (.Attribute o name apos) [] [] cpos) (eBM T f mo aNil) := ⟨fun W tk => by
  refine PE.mono (pe_bm0 pa slot hty hm (ho.run W tk) hbase hline) fun σ H Q h => ?_
  obtain ⟨R, S, l, r, hl, h2⟩ := bm_run h
  refine ⟨R, S, l, r, hl, h2.imp fun d S1 R1 H1 x1 r1 q v hv => ?_⟩
  obtain ⟨q1, R3, S3, l3, r3, hl3, q2⟩ := q v hv
  exact ⟨q1, Out.pure q2 r3 [] .nil⟩⟩
theorem s_append : MtR X "list.append" (liftOM X oAppend) := by
  refine MtR.mono mt_append fun x xs H Q ⟨R, S, d, ds, r, hd, hs, q⟩ => ?_
  cases d <;> first | (cases ds <;> exact False.elim q) | skip
  rename_i n
  obtain ⟨a, rfl, hn⟩ := hd.refv
  cases hs with
  | nil => exact False.elim q
  | @cons d v _ _ h1 t =>
    cases t with
    | cons _ _ => exact False.elim q
    | nil =>
      unfold oAppend at q
      cases q1 : S[n]? with
      | none => simp only [q1] at q; exact False.elim q
      | some o =>
        simp only [q1] at q
        cases o <;> first | exact False.elim q | skip
        rename_i es
        obtain ⟨vs, g1, g2⟩ := r.ob n a _ hn q1
        by_cases z : es.length < 1000000
        · simp only [z, if_true] at q
          refine ⟨a, vs, _, rfl, rfl, g1, by rw [← g2.length, sizeLine_eq]; omega, ?_⟩
          have xx : Ext R H R (upd H a (.lst (vs ++ [v]))) := Ext.write (List.mem_of_getElem? hn) g1 rfl
          exact q R _ xx (r.write hn g1 rfl ⟨_, upd_same, (g2.snoc h1).ext r xx⟩) _ .non
        · simp only [z] at q; exact False.elim q
theorem s_pop : MtR X "list.pop" (liftOM X oPop) := by
  refine MtR.mono mt_pop fun x xs H Q ⟨R, S, d, ds, r, hd, hs, q⟩ => ?_
  cases d <;> first | (cases ds <;> exact False.elim q) | skip
  rename_i n
  obtain ⟨a, rfl, hn⟩ := hd.refv
  cases hs with
  | cons h1 t => exact False.elim q
  | nil =>
    unfold oPop at q
    cases q1 : S[n]? with
    | none => simp only [q1] at q; exact False.elim q
    | some o =>
      simp only [q1] at q
      cases o <;> first | exact False.elim q | skip
      rename_i es
      obtain ⟨vs, g1, g2⟩ := r.ob n a _ hn q1
      cases q2 : es[es.length - 1]? with
      | none => simp only [q2] at q; exact False.elim q
      | some y =>
        simp only [q2] at q
        obtain ⟨u, k1, k2⟩ := g2.get q2
        refine ⟨a, vs, u, rfl, rfl, g1, by rw [← g2.length]; exact k1, ?_⟩
        have xx : Ext R H R (upd H a (.lst vs.dropLast)) := Ext.write (List.mem_of_getElem? hn) g1 rfl
        have g3 : DVs X.K R H es.dropLast vs.dropLast := by
          rw [List.dropLast_eq_take, List.dropLast_eq_take, g2.length]
          exact g2.take _
        exact q R _ xx (r.write hn g1 rfl ⟨_, upd_same, g3.ext r xx⟩) _ (k2.ext r xx)
theorem s_extend : MtR X "list.extend" (liftOM X oExtend) := by
  refine MtR.mono mt_extend fun x xs H Q ⟨R, S, d, ds, r, hd, hs, q⟩ => ?_
  cases d <;> first | (cases ds <;> exact False.elim q) | skip
  rename_i n
  obtain ⟨a, rfl, hn⟩ := hd.refv
  cases ds with
  | nil => exact False.elim q
  | cons d t =>
    cases t with
    | cons _ _ => cases d <;> exact False.elim q
    | nil =>
      obtain ⟨v, rfl, hv⟩ := hs.one
      cases d <;> first | exact False.elim q | skip
      rename_i m
      obtain ⟨b, rfl, hm⟩ := hv.refv
      unfold oExtend at q
      cases q1 : S[n]? with
      | none => simp only [q1] at q; exact False.elim q
      | some o =>
        cases q2 : S[m]? with
        | none => simp only [q1, q2] at q; cases o <;> exact False.elim q
        | some u =>
          simp only [q1, q2] at q
          cases o <;> first | exact False.elim q | skip
          cases u <;> first | exact False.elim q | skip
          rename_i es gs
          obtain ⟨vs, g1, g2⟩ := r.ob n a _ hn q1
          obtain ⟨us, g3, g4⟩ := r.ob m b _ hm q2
          by_cases z : es.length + gs.length < 1000000
          · simp only [z, if_true] at q
            refine ⟨a, b, vs, us, rfl, rfl, g1, g3, by rw [← g2.length, ← g4.length]; exact line_big z, ?_⟩
            have xx : Ext R H R (upd H a (.lst (vs ++ us))) := Ext.write (List.mem_of_getElem? hn) g1 rfl
            exact q R _ xx (r.write hn g1 rfl ⟨_, upd_same, (g2.append g4).ext r xx⟩) _ .non
          · simp only [z] at q; exact False.elim q
end
end SL
set_option Elab.async false
set_option linter.all false
set_option maxRecDepth 100000
namespace SL
open PySem PySem.Spec PyProof.Rows L2

/-! ### dicts with keys that are ints and texts -/
def keyD : D → Option Key
  | .int i => some (.inl i)
  | .str x => some (.inr x)
  | _ => none
def dOf : Key → D
  | .inl i => .int i
  | .inr x => .str x
def getA {κ : Type} [DecidableEq κ] (kvs : List (κ × D)) (k : κ) : Option D := (kvs.find? fun kv => decide (kv.1 = k)).map (·.2)
def putA {κ : Type} [DecidableEq κ] (kvs : List (κ × D)) (k : κ) (v : D) : List (κ × D) :=
  if (kvs.any fun kv => decide (kv.1 = k)) = true then kvs.map (fun kv => if kv.1 = k then (kv.1, v) else kv) else kvs ++ [(k, v)]
def mergeA (kvs more : List (Key × D)) : List (Key × D) := more.foldl (fun acc kv => putA acc kv.1 kv.2) kvs
def oInK (neg : Bool) : Op2 := fun e d S => match d, keyD e with
  | .ref n, some k => match S[n]? with
    | some (.dK kvs) => some (.bl (if neg then !(getA kvs k).isSome else (getA kvs k).isSome), S)
    | _ => none
  | _, _ => none
def oIxK : Op2 := fun d e S => match d, keyD e with
  | .ref n, some k => match S[n]? with
    | some (.dK kvs) => (getA kvs k).map fun x => (x, S)
    | _ => none
  | _, _ => none
def eNewK : ME := fun _ S => .ok (.ref S.length) (S ++ [.dK []])
def oDict : OpN := fun ds S => match ds with
  | [.ref n] => match S[n]? with
    | some (.dK kvs) => some (.ref S.length, S ++ [.dK kvs])
    | _ => none
  | _ => none
section
variable {P : Program} {w : World} {K : PySem.W.Frag} {R R' : List Addr} {S S' : Sto} {H H' : Hp}
theorem keyD_v {d : D} {v : V} {k : Key} (h : DV K R H d v) (e : keyD d = some k) : v = kV k := by
  cases h <;> cases e <;> rfl
theorem dv_key (k : Key) : DV K R H (dOf k) (kV k) := by
  cases k with
  | inl i => exact .int i
  | inr x => exact .str x
theorem PD.getA {κ : Type} [DecidableEq κ] {k : κ} : ∀ {l : List (κ × D)} {m : List (κ × V)}, PD K R H l m → match SL.getA l k with
    | some d => ∃ v, valV m k = some v ∧ DV K R H d v
    | none => valV m k = none
  | _, _, .nil => rfl
  | (a, x) :: l, (b, y) :: m, .cons ⟨h1, h2⟩ t => by
    have h1' : a = b := h1
    subst h1'
    unfold SL.getA valV
    by_cases e : a = k
    · simp only [List.find?_cons, decide_eq_true e, Option.map_some]
      exact ⟨y, rfl, h2⟩
    · simp only [List.find?_cons, decide_eq_false e]
      exact PD.getA (k := k) t
theorem PD.isSome {κ : Type} [DecidableEq κ] {k : κ} {l : List (κ × D)} {m : List (κ × V)} (h : PD K R H l m) : (valV m k).isSome = (SL.getA l k).isSome := by
  have q := h.getA (k := k)
  cases e : SL.getA l k with
  | none => rw [e] at q; rw [q]; rfl
  | some d => rw [e] at q; obtain ⟨v, q, _⟩ := q; rw [q]; rfl
theorem PD.some {κ : Type} [DecidableEq κ] {k : κ} {d : D} {l : List (κ × D)} {m : List (κ × V)} (h : PD K R H l m) (e : SL.getA l k = some d) : ∃ v, valV m k = some v ∧ DV K R H d v := by
  have q := h.getA (k := k)
  rw [e] at q
  exact q
theorem PD.length {κ : Type} {l : List (κ × D)} {m : List (κ × V)} (h : PD K R H l m) : l.length = m.length := Paired.length h
theorem PD.snoc {κ : Type} {k : κ} {d : D} {v : V} {l : List (κ × D)} {m : List (κ × V)} (h : PD K R H l m) (q : DV K R H d v) : PD K R H (l ++ [(k, d)]) (m ++ [(k, v)]) := Paired.snoc h ⟨rfl, q⟩
theorem PD.mapPut {κ : Type} [DecidableEq κ] {k : κ} {d : D} {v : V} (q : DV K R H d v) : ∀ {l : List (κ × D)} {m : List (κ × V)}, PD K R H l m → PD K R H (l.map fun kv => if kv.1 = k then (kv.1, d) else kv) (m.map fun kv => if kv.1 = k then (kv.1, v) else kv)
  | _, _, .nil => .nil
  | (a, x) :: l, (b, y) :: m, .cons ⟨h1, h2⟩ t => by
    have h1' : a = b := h1
    subst h1'
    refine .cons ?_ (PD.mapPut q t)
    by_cases e : a = k
    · dsimp only; rw [if_pos e, if_pos e]; exact ⟨rfl, q⟩
    · dsimp only; rw [if_neg e, if_neg e]; exact ⟨rfl, h2⟩
theorem PD.any {κ : Type} [DecidableEq κ] {k : κ} : ∀ {l : List (κ × D)} {m : List (κ × V)}, PD K R H l m → (l.any fun kv => decide (kv.1 = k)) = m.any fun kv => decide (kv.1 = k)
  | _, _, .nil => rfl
  | (a, x) :: l, (b, y) :: m, .cons ⟨h1, h2⟩ t => by
    have h1' : a = b := h1
    subst h1'
    rw [List.any_cons, List.any_cons, PD.any t]
theorem PD.put {κ : Type} [DecidableEq κ] {k : κ} {d : D} {v : V} {l : List (κ × D)} {m : List (κ × V)} (h : PD K R H l m) (q : DV K R H d v) : PD K R H (putA l k d) (putK m k v) := by
  unfold putA putK
  rw [h.any]
  split
  · exact h.mapPut q
  · exact h.snoc q
theorem PD.merge : ∀ {more : List (Key × D)} {mm : List (Key × V)} {l : List (Key × D)} {m : List (Key × V)}, PD K R H more mm → PD K R H l m → PD K R H (mergeA l more) (mergeK m mm)
  | _, _, _, _, .nil, h => h
  | (a, x) :: more, (b, y) :: mm, l, m, .cons ⟨h1, h2⟩ t, h => by
    have h1' : a = b := h1
    subst h1'
    have q := PD.merge (l := putA l a x) (m := putK m a y) t (h.put h2)
    exact q
end
section
variable {X : Cx} {pos : Pos} {a b : Expr} {ma mb : ME}
theorem st_c {op : CmpOp} {t : TE} {m : ME} (h : ∀ W, Takes X W → ∃ t, PC X op a b t ∧ ∀ σ H Q, liftE X m W σ H Q → t σ H Q) (h1 : behindInMarks op b = false := by first | exact nobehind _ (by decide) (by decide) | rfl) : ST X (.Compare a [op] [b] pos) (tOf m) := ⟨fun W tk => by
  obtain ⟨t, h, k⟩ := h W tk
  exact PT.mono (pt_cmp h h1) fun σ H Q q => k _ _ _ (tOf_run (t := t) _ σ H Q q)⟩
theorem se_c {op : CmpOp} {m : ME} (h : ∀ W, Takes X W → ∃ t, PC X op a b t ∧ ∀ σ H Q, liftE X m W σ H Q → t σ H Q) (h1 : behindInMarks op b = false := by first | exact nobehind _ (by decide) (by decide) | rfl) : SE X (.Compare a [op] [b] pos) m := ⟨fun W tk => by
  obtain ⟨t, h, k⟩ := h W tk
  exact PE.mono (pe_cmp h h1) fun σ H Q q => k _ _ _ q⟩
theorem inK_run {neg : Bool} {W : WX} (σ : L2.St) (H : Hp) (Q : VK) (h : liftE X (eOp2 (oInK neg) ma mb) W σ H Q) : liftE X ma W σ H fun y H1 => liftE X mb W σ H1 fun x H2 => ∃ a o, x = .ref a ∧ DGet H2 a y o ∧ Q (.bl (if neg then !o.isSome else o.isSome)) H2 := by
  refine two (f := fun _ d e S => ofO (oInK neg d e S)) h fun R S l e d u v H' r hl hu hv q => ?_
  replace q := Out.ofO q
  unfold oInK at q
  cases d <;> first | exact False.elim q | skip
  rename_i n
  cases q0 : keyD e with
  | none => simp only [q0] at q; exact False.elim q
  | some k =>
    simp only [q0] at q
    obtain ⟨a, rfl, hn⟩ := hv.refv
    cases q1 : S[n]? with
    | none => simp only [q1] at q; exact False.elim q
    | some o =>
      simp only [q1] at q
      cases o <;> first | exact False.elim q | skip
      obtain ⟨kvs', h1, h2⟩ := r.ob n a _ hn q1
      have e1 := keyD_v hu q0
      subst e1
      refine ⟨a, valV kvs' k, rfl, DGet.k h1, ?_⟩
      rw [h2.isSome]
      exact OutO.pure q r _ (.bl _)
theorem c_inK (hu : X.A.units + 1 < cLine) (ha : SE X a ma) (hb : SE X b mb) : ∀ W, Takes X W → ∃ t, PC X .In a b t ∧ ∀ σ H Q, liftE X (eOp2 (oInK false) ma mb) W σ H Q → t σ H Q := fun W tk =>
  ⟨_, pc_din hu (ha.run W tk) (hb.run W tk), fun σ H Q h => inK_run σ H Q h⟩
theorem c_notInK (hu : X.A.units + 1 < cLine) (ha : SE X a ma) (hb : SE X b mb) : ∀ W, Takes X W → ∃ t, PC X .NotIn a b t ∧ ∀ σ H Q, liftE X (eOp2 (oInK true) ma mb) W σ H Q → t σ H Q := fun W tk =>
  ⟨_, pc_dnotin hu (ha.run W tk) (hb.run W tk), fun σ H Q h => inK_run σ H Q h⟩
theorem se_ixK (hu : X.A.units + 1 < cLine) (ha : SE X a ma) (hb : SE X b mb) (hs : NoSl b := by exact fun _ _ => rfl) : SE X (.Subscript a b pos) (eOp2 oIxK ma mb) := ⟨fun W tk => by
  refine PE.mono (pe_dget hu (ha.run W tk) (hb.run W tk) hs) fun σ H Q h => ?_
  refine two (f := fun _ d e S => ofO (oIxK d e S)) h fun R S l d e u v H' r hl hd he q => ?_
  replace q := Out.ofO q
  unfold oIxK at q
  cases d <;> first | exact False.elim q | skip
  rename_i n
  cases q0 : keyD e with
  | none => simp only [q0] at q; exact False.elim q
  | some k =>
    simp only [q0] at q
    obtain ⟨a, rfl, hn⟩ := hd.refv
    cases q1 : S[n]? with
    | none => simp only [q1] at q; exact False.elim q
    | some o =>
      simp only [q1] at q
      cases o <;> first | exact False.elim q | skip
      rename_i kvs
      obtain ⟨kvs', h1, h2⟩ := r.ob n a _ hn q1
      have e1 := keyD_v he q0
      subst e1
      cases q2 : getA kvs k with
      | none => simp only [q2] at q; exact False.elim q
      | some x =>
        simp only [q2] at q
        obtain ⟨y, k1, k2⟩ := h2.some q2
        exact ⟨a, y, rfl, k1 ▸ DGet.k h1, OutO.pure q r _ k2⟩⟩
theorem se_newK : SE X (.Dict [] [] pos) eNewK := ⟨fun W tk => by
  refine PE.mono pe_dnewK fun σ H Q ⟨R, S, l, r, hl, q⟩ => ?_
  intro p hp
  exact q _ _ (Ext.push hp) (r.push hp ⟨[], upd_same, .nil⟩) _ (.ref (get_last r))⟩
theorem s_dict : CallR X (.type "dict") (liftON X oDict) := by
  refine callR1 call_dictD (fun _ _ => .inr trivial) (fun ds S hn => no1 hn rfl fun d e r => by cases d <;> rfl) fun R S H d v Q r a q => ?_
  cases d <;> first | exact False.elim q | skip
  rename_i n
  obtain ⟨b, rfl, hn⟩ := a.refv
  unfold oDict at q
  cases q1 : S[n]? with
  | none => simp only [q1] at q; exact False.elim q
  | some o =>
    simp only [q1] at q
    cases o <;> first | exact False.elim q | skip
    obtain ⟨kvs', h1, h2⟩ := r.ob n b _ hn q1
    refine ⟨b, kvs', rfl, .of h1, fun p hp => ?_⟩
    exact q _ _ (Ext.push hp) (r.push hp ⟨kvs', upd_same, h2.mono (fun _ _ z => (Ext.push (u := .dK kvs') hp).get z) fun _ _ z => r.sq (Ext.push hp) z⟩) _ (.ref (get_last r))
end

/-! ### the pairs of a display -/
abbrev MPs := Loc → Sto → Res (List (D × D))
def dNil : MPs := fun _ S => .ok [] S
def dCons (k v : ME) (r : MPs) : MPs := fun l S => (k l S).bind fun d S1 => (v l S1).bind fun e S2 => (r l S2).bind fun ps S3 => .ok ((d, e) :: ps) S3
def keysD : List (D × D) → Option (List (Key × D))
  | [] => some []
  | (d, e) :: r => match keyD d, keysD r with
    | some k, some ks => some ((k, e) :: ks)
    | _, _ => none
/-- {k: v, ..}: the dict stands empty while its pairs are made -/
def eDisp (ps : MPs) : ME := fun l S => (ps l (S ++ [.dK []])).bind fun qs S1 => match S1[S.length]?, keysD qs with
  | some (.dK []), some kvs => if kvs.length ≤ 15 then .ok (.ref S.length) (S1.set S.length (.dK (mergeA [] kvs))) else .bad
  | _, _ => .bad
section
variable (X : Cx)
inductive PPD (K : PySem.W.Frag) (R : List Addr) (H : Hp) : List (D × D) → List (V × V) → Prop
  | nil : PPD K R H [] []
  | cons {d e : D} {v u : V} {ps : List (D × D)} {qs : List (V × V)} : DV K R H d v → DV K R H e u → PPD K R H ps qs → PPD K R H ((d, e) :: ps) ((v, u) :: qs)
def liftPs (m : MPs) (W : WX) (trs : List (TE × TE)) : Prop := ∀ σ H (Q : List (V × V) → Hp → Prop) R S l, RelX X R S H → LocR X.K R H l σ → (Out X (m l S) R H (fun c d H' => W c d σ H') fun ps _ R' H' => ∀ qs, PPD X.K R' H' ps qs → Q qs H') → tPairs trs σ H Q
structure SD (pos : Pos) (ks : List (Option Expr)) (vs : List Expr) (m : MPs) : Prop where
  run : ∀ W : WX, Takes X W → ∃ trs, PPs X pos ks vs trs ∧ liftPs X m W trs
end
section
variable {X : Cx} {pos : Pos} {k v : Expr} {ks : List (Option Expr)} {vs : List Expr} {mk mv : ME} {m : MPs}
theorem sd_nil : SD X pos [] [] dNil := ⟨fun W tk => ⟨[], pps_nil, fun σ H Q R S l r hl q => Out.pure q r [] .nil⟩⟩
theorem sd_cons (hk : SE X k mk) (hv : SE X v mv) (hr : SD X pos ks vs m) : SD X pos (some k :: ks) (v :: vs) (dCons mk mv m) := ⟨fun W tk => by
  obtain ⟨trs, h1, h2⟩ := hr.run W tk
  refine ⟨_, pps_cons (hk.run W tk) (hv.run W tk) h1, fun σ H Q R S l r hl q => ?_⟩
  refine ⟨R, S, l, r, hl, (Out.bind q).imp fun d S1 R1 H1 x1 r1 q v hv => ⟨R1, S1, l, r1, hl.ext r x1, (Out.bind q).imp fun e S2 R2 H2 x2 r2 q u hu => ?_⟩⟩
  refine h2 σ H2 _ R2 S2 l r2 ((hl.ext r x1).ext r1 x2) ((Out.bind q).imp fun ps S3 R3 H3 x3 r3 q qs hqs => ?_)
  exact Out.pure q r3 _ (.cons ((hv.ext r1 x2).ext r2 x3) (hu.ext r2 x3) hqs)⟩
theorem PPD.keys {K : PySem.W.Frag} {R : List Addr} {H : Hp} : ∀ {ps : List (D × D)} {qs : List (V × V)} {kvs : List (Key × D)}, PPD K R H ps qs → keysD ps = some kvs → ∃ kvs', qs = kvs'.map (fun kv => (kV kv.1, kv.2)) ∧ PD K R H kvs kvs'
  | _, _, _, .nil, e => by cases e; exact ⟨[], rfl, .nil⟩
  | (d, e) :: ps, (v, u) :: qs, kvs, .cons h1 h2 t, z => by
    have z' : (match keyD d, keysD ps with
      | some k, some ks => some ((k, e) :: ks)
      | _, _ => none) = some kvs := z
    cases q1 : keyD d with
    | none => rw [q1] at z'; cases z'
    | some k =>
      cases q2 : keysD ps with
      | none => rw [q1, q2] at z'; cases z'
      | some ks =>
        rw [q1, q2] at z'
        cases z'
        obtain ⟨kvs', e1, e2⟩ := PPD.keys t q2
        refine ⟨(k, u) :: kvs', ?_, .cons ⟨rfl, h2⟩ e2⟩
        rw [List.map_cons, ← e1, keyD_v h1 q1]
theorem se_disp (h : SD X pos ks vs m) (hall : ks.all (·.isSome) = true := by rfl) (hl : ks.length = vs.length := by rfl) (h0 : ks ≠ [] := by exact fun z => nomatch z) (h15 : ks.length ≤ 15 := by decide) : SE X (.Dict ks vs pos) (eDisp m) := ⟨fun W tk => by
  obtain ⟨trs, h1, h2⟩ := h.run W tk
  refine PE.mono (pe_disp h1 hall hl h0 h15) fun σ H Q ⟨R, S, l, r, hl, q⟩ => ?_
  intro p hp
  have r1 : RelX X (R ++ [p]) (S ++ [.dK []]) (upd H p (.dK [])) := r.push hp ⟨[], upd_same, .nil⟩
  have x1 : Ext R H (R ++ [p]) (upd H p (.dK [])) := Ext.push hp
  refine h2 σ _ _ _ _ l r1 (hl.ext r x1) ((Out.bind (Out.shift q x1 r1.some)).imp fun qs S2 R2 H2 x2 r2 q2 vs hvs => ?_)
  have hp2 : R2[S.length]? = some p := x2.get (get_last r)
  cases q3 : S2[S.length]? with
  | none => simp only [q3] at q2; exact False.elim q2
  | some o =>
    simp only [q3] at q2
    cases o <;> first | exact False.elim q2 | skip
    rename_i kk
    cases kk with
    | cons _ _ => exact False.elim q2
    | nil =>
      cases q4 : keysD qs with
      | none => simp only [q4] at q2; exact False.elim q2
      | some kvs =>
        simp only [q4] at q2
        by_cases z : kvs.length ≤ 15
        · simp only [z, if_true] at q2
          obtain ⟨kk, g1, g2⟩ := r2.ob _ p _ hp2 q3
          cases g2
          obtain ⟨kvs', e1, e2⟩ := hvs.keys q4
          refine ⟨g1, kvs', e1, by rw [← e2.length]; exact z, ?_⟩
          have xx : Ext R2 H2 R2 (upd H2 p (.dK (mergeK [] kvs'))) := Ext.write (List.mem_of_getElem? hp2) g1 rfl
          exact q2 _ _ xx (r2.write hp2 g1 rfl ⟨_, upd_same, PD.mono (fun _ _ z => z) (fun _ _ z => r2.sq xx z) (PD.merge e2 .nil)⟩) _ (.ref hp2)
        · simp only [z] at q2; exact False.elim q2⟩
end

/-! ### isinstance -/
def isT (a b : String) : Bool := a == b || (a == "bool" && b == "int")
def tysA : List String := ["NoneType", "bool", "int", "str", "tuple", "list", "dict"]
def tysB : List String := ["bool", "int", "str", "tuple", "list", "dict"]
theorem isT_all : (tysA.all fun a => tysB.all fun b => decide (kitB a b = some (isT a b))) = true := by decide +kernel
theorem isT_ok {a b : String} (ha : a ∈ tysA) (hb : b ∈ tysB) : kitB a b = some (isT a b) := of_decide_eq_true (List.all_eq_true.mp (List.all_eq_true.mp isT_all a ha) b hb)
/-- a value's built-in type -/
def tyOf (d : D) (S : Sto) : Option String := match d with
  | .non => some "NoneType"
  | .bl _ => some "bool"
  | .int _ => some "int"
  | .str _ => some "str"
  | .tup _ => some "tuple"
  | .ref n => match S[n]? with
    | some (.lst _) => some "list"
    | some (.dK _) => some "dict"
    | some (.dN _) => some "dict"
    | some (.raw _) => some "dict"
    | _ => none
  | _ => none
/-- isinstance(x, T), of built-in types; (C, T): what the table says of instances; (t, C): of built-in types and own classes -/
def oIsi (t : IsTab) : OpN := fun ds S => match ds with
  | [d, .ty T] => match tyOf d S with
    | some a => if tysB.contains T then some (.bl (isT a T), S) else none
    | none => match d with
      | .ref n => match S[n]? with
        | some (.ins C _) => (t.look C (.ty T)).map fun b => (.bl b, S)
        | _ => none
      | _ => none
  | [d, .gl C'] => match tyOf d S with
    | some a => (t.own.find? fun q => q.1 == a && q.2.1 = C').map fun q => (.bl q.2.2, S)
    | none => match d with
      | .ref n => match S[n]? with
        | some (.ins C _) => (t.look C (.gl C')).map fun b => (.bl b, S)
        | _ => none
      | _ => none
  | _ => none
end SL
set_option Elab.async false
set_option linter.all false
set_option maxRecDepth 100000
namespace SL
open PySem PySem.Spec PyProof.Rows L2

/-! ### isinstance: the rule -/
/-- what isinstance asks of an instance's class -/
structure InsOk (K : PySem.W.Frag) (C : Str) : Prop where
  cls : Cls K (He.ga K C)
  cl : PySem.W.findIn K (.ref (He.ga K C)) "__class__" = some (some (.builtin "object.__class__"))
  sp : PySem.W.specialIn K (.builtin "object.__class__") "__get__" = some (some (.builtin "getset_descriptor.__get__"))
  tk : PySem.W.takesIn K (.builtin "object.__class__") = some true
  mro : PySem.W.mroIn K (He.ga K C) (.type "object") = some true
structure IsTab.Ok (K : PySem.W.Frag) (t : IsTab) : Prop where
  ins : ∀ q ∈ t.ins, InsOk K q.1 ∧ PySem.W.kitOne K (.ref (He.ga K q.1)) (clsVal K q.2.1) = some q.2.2
  own : ∀ q ∈ t.own, PySem.W.kitOne K (.type q.1) (.ref (He.ga K q.2.1)) = some q.2.2
theorem IsTab.look_at {K : PySem.W.Frag} {t : IsTab} (ok : t.Ok K) {C : Str} {d : D} {b : Bool} (h : t.look C d = some b) : InsOk K C ∧ PySem.W.kitOne K (.ref (He.ga K C)) (clsVal K d) = some b := by
  unfold IsTab.look at h
  cases d <;> first | cases h | skip
  · rename_i T
    obtain ⟨q, h1, h2⟩ := Option.map_eq_some_iff.mp h
    have hm := List.mem_of_find?_eq_some h1
    have hp := List.find?_some h1
    obtain ⟨D1, e, bb⟩ := q
    cases e <;> first | cases hp | skip
    simp only [Bool.and_eq_true, decide_eq_true_eq, beq_iff_eq] at hp
    obtain ⟨rfl, rfl⟩ := hp
    cases h2
    exact ok.ins _ hm
  · rename_i T
    obtain ⟨q, h1, h2⟩ := Option.map_eq_some_iff.mp h
    have hm := List.mem_of_find?_eq_some h1
    have hp := List.find?_some h1
    obtain ⟨D1, e, bb⟩ := q
    cases e <;> first | cases hp | skip
    simp only [Bool.and_eq_true, decide_eq_true_eq] at hp
    obtain ⟨rfl, rfl⟩ := hp
    cases h2
    exact ok.ins _ hm
section
variable {X : Cx} {pins : List (Addr × Obj)} {σ : L2.St} {H : Hp} {s : Shared} {R : List Addr} {S : Sto}
/-- what the library's isinstance asks -/
def KitV (X : Cx) (s : Shared) (u t : Value) : Prop := ∃ Pp : Heap → Prop, PySem.W.KitX X.K u t Pp ∧ Pp s.heap ∧ u ≠ .builtin "__main__.__loader__#opaque"
theorem tyOf_mem {d : D} {a : String} (h : tyOf d S = some a) : a ∈ tysA := by
  cases d with
  | ref n =>
    have e' : (match S[n]? with
      | some (.lst _) => some "list"
      | some (.dK _) => some "dict"
      | some (.dN _) => some "dict"
      | some (.raw _) => some "dict"
      | _ => none) = some a := h
    cases q : S[n]? with
    | none => rw [q] at e'; cases e'
    | some o =>
      rw [q] at e'
      cases o <;> first | (cases e'; decide) | cases e'
  | _ => first | (cases h; decide) | cases h
theorem tyOf_kit (I : Inv X pins σ H s) (r : RelX X R S H) {d : D} {v : V} {u : Value} {a : String} (h : DV X.K R H d v) (rv : RelV v u) (e : tyOf d S = some a) : KitV X s u (.type a) := by
  cases h with
  | non => cases e; exact L2.kit_of I rv (.base .non)
  | bl b => cases e; exact L2.kit_of I rv (.base (.bl b))
  | int b => cases e; exact L2.kit_of I rv (.base (.int b))
  | str b => cases e; exact L2.kit_of I rv (.base (.str b))
  | ty _ => cases e
  | gl _ => cases e
  | tup s' t =>
    cases e
    refine L2.kit_of I rv ?_
    rcases s' with s' | ⟨o, its, n, h1, h2, _⟩
    · rcases s' with s' | ⟨o, s'⟩
      · exact .base (.tup s')
      · exact .fTuple s'
    · exact .kTuple h1 h2
  | @ref n b hn =>
    have e' : (match S[n]? with
      | some (.lst _) => some "list"
      | some (.dK _) => some "dict"
      | some (.dN _) => some "dict"
      | some (.raw _) => some "dict"
      | _ => none) = some a := e
    cases q : S[n]? with
    | none => rw [q] at e'; cases e'
    | some o =>
      rw [q] at e'
      cases o <;> first | cases e' | skip
      · obtain ⟨vs, h1, _⟩ := r.ob n b _ hn q
        exact L2.kit_of I rv (.base (.lst h1))
      · obtain ⟨vs, h1, _⟩ := r.ob n b _ hn q
        exact L2.kit_of I rv (.base (.dK h1))
      · obtain ⟨o, es, ep, xs, h1, _, h2, _⟩ := r.ob n b _ hn q
        obtain rfl : u = Value.ref b := rv
        exact ⟨_, PySem.W.kitx_dict, ⟨o, (I.hok b _ h1).1, h2.1⟩, fun z => nomatch z⟩
      · obtain ⟨o, es, ep, xs, h1, _, h2, _⟩ := r.ob n b _ hn q
        obtain rfl : u = Value.ref b := rv
        exact ⟨_, PySem.W.kitx_dict, ⟨o, (I.hok b _ h1).1, h2.1⟩, fun z => nomatch z⟩
theorem ins_kit (I : Inv X pins σ H s) (r : RelX X R S H) {n : Nat} {v : V} {u : Value} {C : Str} {fs : List (Str × D)} (h : DV X.K R H (.ref n) v) (rv : RelV v u) (e : S[n]? = some (.ins C fs)) (ok : InsOk X.K C) : KitV X s u (.ref (He.ga X.K C)) := by
  obtain ⟨b, rfl, hn⟩ := h.refv
  obtain ⟨dx, gs, h1, _⟩ := r.ob n b _ hn e
  exact L2.kit_of I rv (.base (.ins h1 ok.cls ok.cl ok.sp ok.tk ok.mro))
theorem s_isi {t : IsTab} (ok : t.Ok X.K) : CallR X (.builtin "isinstance") (liftON X (oIsi t)) := by
  intro pins s σ H xs us Q I rr h
  obtain ⟨R, S, ds, r, hd, q⟩ := h
  have fin : ∀ (d c : D) (b : Bool) (tv : Value), ds = [d, c] → (∃ cv, clsVal X.K c = cv ∧ ∀ v, DV X.K R H c v → ClsV v cv) → (∀ v u, DV X.K R H d v → RelV v u → KitV X s u tv) → PySem.W.kitOne X.K tv (clsVal X.K c) = some b →
      (OutO X (some (.bl b, S)) R H fun d' _ R' H' => ∀ v, DV X.K R' H' d' v → Q v H') → wpAny (model X.prog X.w) X.A (call (.builtin "isinstance") us) (EP X pins σ Q) X.xe s := by
    intro d c b tv e hc hk hkit q9
    subst e
    obtain ⟨v, u, rfl, hv, hu⟩ := hd.two
    obtain ⟨u1, u2, rfl, r1, r2⟩ := Vals.two rr
    obtain ⟨cv, ec, hcv⟩ := hc
    have e2 := (hcv u hu).eq r2
    subst e2
    obtain ⟨Pp, Z, p, hx⟩ := hk v u1 hv r1
    rw [ec] at hkit
    exact PySem.W.kia_one Z I.kIn p hkit hx fun tk => ⟨.bl b, H, I.tok tk, rfl, OutO.pure q9 r _ (.bl b)⟩
  have cty : ∀ T : String, ∃ cv, clsVal X.K (.ty T) = cv ∧ ∀ v, DV X.K R H (.ty T) v → ClsV v cv := fun T => ⟨_, rfl, fun v h => by cases h; exact .ty T⟩
  have cgl : ∀ C : Str, ∃ cv, clsVal X.K (.gl C) = cv ∧ ∀ v, DV X.K R H (.gl C) v → ClsV v cv := fun T => ⟨_, rfl, fun v h => by cases h; exact .own _⟩
  cases ds with
  | nil => exact False.elim q
  | cons d t1 =>
    cases t1 with
    | nil => exact False.elim q
    | cons c t2 =>
      cases t2 with
      | cons _ _ => cases c <;> exact False.elim q
      | nil =>
        cases c <;> first | exact False.elim q | skip
        · rename_i T
          unfold oIsi at q
          cases q1 : tyOf d S with
          | some a =>
            simp only [q1] at q
            by_cases z : tysB.contains T = true
            · simp only [z, if_true] at q
              exact fin d (.ty T) _ (.type a) rfl (cty T) (fun v u hv rv => tyOf_kit I r hv rv q1) (kit_ty (isT_ok (tyOf_mem q1) (List.contains_iff_mem.mp z))) q
            · simp only [z] at q; exact False.elim q
          | none =>
            simp only [q1] at q
            cases d <;> first | exact False.elim q | skip
            rename_i n
            cases q2 : S[n]? with
            | none => simp only [q2] at q; exact False.elim q
            | some o =>
              simp only [q2] at q
              cases o <;> first | exact False.elim q | skip
              rename_i C fs
              cases q3 : t.look C (.ty T) with
              | none => simp only [q3] at q; exact False.elim q
              | some b =>
                simp only [q3] at q
                obtain ⟨k1, k2⟩ := IsTab.look_at ok q3
                exact fin (.ref n) (.ty T) b _ rfl (cty T) (fun v u hv rv => ins_kit I r hv rv q2 k1) k2 q
        · rename_i C'
          unfold oIsi at q
          cases q1 : tyOf d S with
          | some a =>
            simp only [q1] at q
            cases q3 : t.own.find? fun q => q.1 == a && q.2.1 = C' with
            | none => simp only [q3] at q; exact False.elim q
            | some p =>
              simp only [q3] at q
              have hm := List.mem_of_find?_eq_some q3
              have hp := List.find?_some q3
              obtain ⟨a1, C1, bb⟩ := p
              simp only [Bool.and_eq_true, decide_eq_true_eq, beq_iff_eq] at hp
              obtain ⟨rfl, rfl⟩ := hp
              exact fin d (.gl C1) _ _ rfl (cgl C1) (fun v u hv rv => tyOf_kit I r hv rv q1) (ok.own _ hm) q
          | none =>
            simp only [q1] at q
            cases d <;> first | exact False.elim q | skip
            rename_i n
            cases q2 : S[n]? with
            | none => simp only [q2] at q; exact False.elim q
            | some o =>
              simp only [q2] at q
              cases o <;> first | exact False.elim q | skip
              rename_i C fs
              cases q3 : t.look C (.gl C') with
              | none => simp only [q3] at q; exact False.elim q
              | some b =>
                simp only [q3] at q
                obtain ⟨k1, k2⟩ := IsTab.look_at ok q3
                exact fin (.ref n) (.gl C') b _ rfl (cgl C') (fun v u hv rv => ins_kit I r hv rv q2 k1) k2 q
end
/-- a built-in class as a value -/
theorem se_ty {X : Cx} {x : Str} {T : String} {pos : Pos} (hg : Gl X x) (hm : X.mg x = none) (hv : bootBuiltins x = some (.type T)) (hn : x ≠ "__name__" := by decide) (hd : (x == ("__debug__" : Str)) = false := by decide) : SE X (.Name x pos) (eC (.ty T)) :=
  se_const (pe_bltn (v := .ty T) hg hm hv rfl hn hd) fun _ _ => .ty T
end SL
set_option Elab.async false
set_option linter.all false
set_option maxRecDepth 100000
namespace SL
open PySem PySem.Spec PyProof.Rows L2

/-! ### statements -/
def sNil : MS := fun l S => .ok (.nx, l) S
def sSeq (a b : MS) : MS := fun l S => (a l S).bind fun f S1 => match f.1 with
  | .nx => b f.2 S1
  | _ => .ok f S1
def sBreak : MS := fun l S => .ok (.bk, l) S
def sCont : MS := fun l S => .ok (.ct, l) S
def sExpr (m : ME) : MS := fun l S => (m l S).bind fun _ S1 => .ok (.nx, l) S1
def sRet (m : ME) : MS := fun l S => (m l S).bind fun d S1 => .ok (.rt d, l) S1
def sRetN : MS := fun l S => .ok (.rt .non, l) S
def sIf (t : MT) (a b : MS) : MS := fun l S => (t l S).bind fun k S1 => if k = true then a l S1 else b l S1
def sSet (i : Nat) (m : ME) : MS := fun l S => (m l S).bind fun d S1 => .ok (.nx, l.set i (some d)) S1
def sPar (i j : Nat) (a : MA) : MS := fun l S => (a l S).bind fun ds S1 => match ds with
  | [d, e] => .ok (.nx, (l.set i (some d)).set j (some e)) S1
  | _ => .bad
def putD (f : Str) (v : D) : List (Str × D) → List (Str × D)
  | [] => [(f, v)]
  | (g, x) :: r => if g = f then (g, v) :: r else (g, x) :: putD f v r
def sFld (cs : List Str) (f : Str) (o v : ME) : MS := fun l S => (v l S).bind fun e S1 => (o l S1).bind fun d S2 => match d with
  | .ref n => match S2[n]? with
    | some (.ins C fs) => if cs.contains C && decide (fs.length < 1000) then .ok (.nx, l) (S2.set n (.ins C (putD f e fs))) else .bad
    | _ => .bad
  | _ => .bad
def sPutK (o i v : ME) : MS := fun l S => (v l S).bind fun e S1 => (o l S1).bind fun d S2 => (i l S2).bind fun k S3 => match d, keyD k with
  | .ref n, some k => match S3[n]? with
    | some (.dK kvs) => if kvs.length < 1000000 then .ok (.nx, l) (S3.set n (.dK (putA kvs k e))) else .bad
    | _ => .bad
  | _, _ => .bad
def sAug (i : Nat) (f : Op2) (v : ME) : MS := fun l S => match l[i]? with
  | some (some d) => (v l S).bind fun e S1 => (ofO (f d e S1)).bind fun r S2 => .ok (.nx, l.set i (some r)) S2
  | _ => .bad
def sFldAug (cs : List Str) (f : Str) (g : Op2) (o v : ME) : MS := fun l S => (o l S).bind fun d S1 => match d with
  | .ref n => match S1[n]? with
    | some (.ins C fs) => if cs.contains C = true then (match fs.lookup f with
      | some x => (v l S1).bind fun y S2 => match S2[n]? with
        | some (.ins C' fs') => if C' = C ∧ fs'.length < 1000 then (match x, y with
          | .int i, .int j => match g (.int i) (.int j) S2 with
            | some (z, _) => .ok (.nx, l) (S2.set n (.ins C' (putD f z fs')))
            | none => .bad
          | _, _ => .bad) else .bad
        | _ => .bad
      | none => .bad) else .bad
    | _ => .bad
  | _ => .bad
def loopW : Nat → MT → MS → MS
  | 0, _, _ => fun _ _ => .bad
  | n + 1, c, b => fun l S => (c l S).bind fun k S1 => if k = true then (b l S1).bind fun f S2 => (match f.1 with
      | .nx => loopW n c b f.2 S2
      | .ct => loopW n c b f.2 S2
      | .bk => .ok (.nx, f.2) S2
      | .rt d => .ok (.rt d, f.2) S2) else .ok (.nx, l) S1
def sRaise (C f : Str) (m : ME) : MS := fun l S => (m l S).bind fun d S1 => .err C [(f, d)] S1
def sRaise0 (C : Str) : MS := fun _ S => .err C [] S

section
variable (X : Cx)
structure SS (st : Stmt) (m : MS) : Prop where
  run : ∀ W : WX, Takes X W → PS X st (liftS X m W)
structure SSs (st : List Stmt) (m : MS) : Prop where
  run : ∀ W : WX, Takes X W → PSs X st (liftS X m W)
end
section
variable {X : Cx} {st : Stmt} {sts : List Stmt} {e o v c : Expr} {pos pos' p tpos : Pos} {m ms : MS} {me mo mv mk : ME} {mA : MA} {mt : MT} {W : WX} {σ : L2.St} {H : Hp} {Dn : Ends}
/-- one expression, then what is made of its value, in a statement -/
theorem liftS.bind {f : Loc → D → Sto → Res (Fl × Loc)} (h : liftS X (fun l S => (me l S).bind fun d S1 => f l d S1) W Dn σ H) {T : V → Hp → Prop}
    (k : ∀ R S l d v H', RelX X R S H' → LocR X.K R H' l σ → DV X.K R H' d v → (Out X (f l d S) R H' (fun c d H' => ∀ σ' : L2.St, W c d σ' H') fun f _ R' H' => ∀ σ', LocR X.K R' H' f.2 σ' → EndF X Dn R' H' σ' f.1) → T v H') : liftE X me W σ H T := by
  obtain ⟨R, S, l, r, hl, h⟩ := h
  exact ⟨R, S, l, r, hl, (Out.bind h).impW (fun d S1 R1 H1 x1 r1 q v hv => k R1 S1 l d v H1 r1 (hl.ext r x1) hv q) fun _ _ _ q => q σ⟩
theorem liftS.bind2 {me2 : ME} {f : Loc → D → D → Sto → Res (Fl × Loc)} (h : liftS X (fun l S => (me l S).bind fun d S1 => (me2 l S1).bind fun e S2 => f l d e S2) W Dn σ H) {T : V → V → Hp → Prop}
    (k : ∀ R S l d e v u H', RelX X R S H' → LocR X.K R H' l σ → DV X.K R H' d v → DV X.K R H' e u → (Out X (f l d e S) R H' (fun c d H' => ∀ σ' : L2.St, W c d σ' H') fun f _ R' H' => ∀ σ', LocR X.K R' H' f.2 σ' → EndF X Dn R' H' σ' f.1) → T v u H') : liftE X me W σ H fun x H1 => liftE X me2 W σ H1 fun y H2 => T x y H2 := by
  refine liftS.bind (f := fun l d S1 => (me2 l S1).bind fun e S2 => f l d e S2) h fun R S l d v H' r hl hv q => ?_
  exact ⟨R, S, l, r, hl, (Out.bind q).impW (fun e S1 R1 H1 x1 r1 q u hu => k R1 S1 l d e v u H1 r1 (hl.ext r x1) (hv.ext r x1) hu q) fun _ _ _ q => q σ⟩
theorem ss_nil : SSs X [] sNil := ⟨fun W tk => PSs.mono pss_nil fun Dn σ H ⟨R, S, l, r, hl, q⟩ => Out.pure (W := fun c d H' => ∀ σ' : L2.St, W c d σ' H') q r σ hl⟩
theorem seq_run {a b : MS} (h : liftS X (sSeq a b) W Dn σ H) : liftS X a W { Dn with nx := fun σ' H' => liftS X b W Dn σ' H' } σ H := by
  obtain ⟨R, S, l, r, hl, h⟩ := h
  refine ⟨R, S, l, r, hl, (Out.bind h).imp fun f S1 R1 H1 x1 r1 q σ' hl' => ?_⟩
  obtain ⟨fl, l'⟩ := f
  cases fl with
  | nx => exact ⟨R1, S1, l', r1, hl', q⟩
  | bk => exact Out.pure q r1 σ' hl'
  | ct => exact Out.pure q r1 σ' hl'
  | rt d => exact Out.pure q r1 σ' hl'
theorem ss_cons (h1 : SS X st m) (h2 : SSs X sts ms) : SSs X (st :: sts) (sSeq m ms) := ⟨fun W tk => PSs.mono (pss_cons (h1.run W tk) (h2.run W tk)) fun Dn σ H h => seq_run h⟩
theorem ss_one (h1 : SS X st m) : SSs X [st] m := ⟨fun W tk => pss_one (h1.run W tk)⟩
theorem ss_pass : SS X (.Pass pos) sNil := ⟨fun W tk => PS.mono ps_pass fun Dn σ H ⟨R, S, l, r, hl, q⟩ => Out.pure (W := fun c d H' => ∀ σ' : L2.St, W c d σ' H') q r σ hl⟩
theorem ss_break : SS X (.Break pos) sBreak := ⟨fun W tk => PS.mono ps_break fun Dn σ H ⟨R, S, l, r, hl, q⟩ => Out.pure (W := fun c d H' => ∀ σ' : L2.St, W c d σ' H') q r σ hl⟩
theorem ss_cont : SS X (.Continue pos) sCont := ⟨fun W tk => PS.mono ps_continue fun Dn σ H ⟨R, S, l, r, hl, q⟩ => Out.pure (W := fun c d H' => ∀ σ' : L2.St, W c d σ' H') q r σ hl⟩
theorem ss_expr (he : SE X e me) (hs : swapsWith e none pos.line X.env = pure false := by rfl) : SS X (.Expr e pos) (sExpr me) := ⟨fun W tk => by
  refine PS.mono (ps_expr (he.run W tk) hs) fun Dn σ H h => ?_
  exact liftS.bind (f := fun l _ S1 => .ok (.nx, l) S1) h fun R S l d v H' r hl hv q => Out.pure q r σ hl⟩
theorem ss_ret (he : SE X e me) : SS X (.Return (some e) pos) (sRet me) := ⟨fun W tk => by
  refine PS.mono (ps_ret (he.run W tk)) fun Dn σ H h => ?_
  exact liftS.bind (f := fun l d S1 => .ok (.rt d, l) S1) h fun R S l d v H' r hl hv q => Out.pure q r σ hl v hv⟩
theorem ss_retN : SS X (.Return none pos) sRetN := ⟨fun W tk => PS.mono ps_retN fun Dn σ H ⟨R, S, l, r, hl, q⟩ => Out.pure (W := fun c d H' => ∀ σ' : L2.St, W c d σ' H') q r σ hl _ .non⟩
theorem ss_if {a b : List Stmt} {ma mb : MS} (hc : ST X c mt) (ha : SSs X a ma) (hb : SSs X b mb) : SS X (.If c a b pos) (sIf mt ma mb) := ⟨fun W tk => by
  refine PS.mono (ps_if (hc.run W tk) (ha.run W tk) (hb.run W tk)) fun Dn σ H ⟨R, S, l, r, hl, h⟩ => ?_
  refine ⟨R, S, l, r, hl, (Out.bind h).impW (fun k S1 R1 H1 x1 r1 q => ?_) fun _ _ _ q => q σ⟩
  cases k with
  | true => rw [if_pos rfl] at q ⊢; exact ⟨R1, S1, l, r1, hl.ext r x1, q⟩
  | false => rw [if_neg Bool.false_ne_true] at q ⊢; exact ⟨R1, S1, l, r1, hl.ext r x1, q⟩⟩
theorem ss_set {i : Nat} {x : Str} (hN : X.N.Nodup) (hi : X.N[i]? = some x) (hx : L2.Loc X.env.scope x) (he : SE X e me) (hs : swapsWith e (some (.Name x pos')) pos.line X.env = pure false := by rfl) (hf : X.fn x = true ∨ X.env.scope.names.lookup x = some .local := by first | exact .inl rfl | exact .inr rfl | assumption) :
    SS X (.Assign [.Name x pos'] e pos) (sSet i me) := ⟨fun W tk => by
  refine PS.mono (ps_set hN hi hx (he.run W tk) hs hf) fun Dn σ H h => ?_
  exact liftS.bind (f := fun l d S1 => .ok (.nx, l.set i (some d)) S1) h fun R S l d v H' r hl hv q => Out.pure q r _ (hl.set hv)⟩
theorem ss_par {i j : Nat} {x y : Str} {a b : Expr} {px py pt : Pos} {kt k2 pt2} (hc : X.calm = true) (hN : X.N.Nodup) (hi : X.N[i]? = some x) (hj : X.N[j]? = some y) (hij : i ≠ j) (hx : X.env.scope.names.lookup x = some .local) (hy : X.env.scope.names.lookup y = some .local) (ha : SA X [a, b] mA)
    (hw : swappedStores [.Tuple [.Name x px, .Name y py] kt pt] (.Tuple [a, b] k2 pt2) X.env = pure (some [x, y])) (hs : swapsWithSole [.Tuple [.Name x px, .Name y py] kt pt] (.Tuple [a, b] k2 pt2) pos.line X.env = pure false := by rfl) :
    SS X (.Assign [.Tuple [.Name x px, .Name y py] kt pt] (.Tuple [a, b] k2 pt2) pos) (sPar i j mA) := ⟨fun W tk => by
  refine PS.mono (ps_par hc hN hi hj hij hx hy (ha.run W tk) hw hs) fun Dn σ H ⟨R, S, l, r, hl, h⟩ => ?_
  refine ⟨R, S, l, r, hl, (Out.bind h).impW (fun ds S1 R1 H1 x1 r1 q vs hvs => ?_) fun _ _ _ q => q σ⟩
  cases hvs with
  | nil => exact False.elim q
  | cons h1 t =>
    cases t with
    | nil => exact False.elim q
    | cons h2 t =>
      cases t with
      | cons _ _ => exact False.elim q
      | nil => exact ⟨_, _, rfl, Out.pure q r1 _ (((hl.ext r x1).set h1).set h2)⟩⟩
theorem PD.putF {K : PySem.W.Frag} {R : List Addr} {H : Hp} {f : Str} {d : D} {v : V} (q : DV K R H d v) : ∀ {fs : List (Str × D)} {gs : List (Str × V)}, PD K R H fs gs → PD K R H (putD f d fs) (putF f v gs)
  | _, _, .nil => .cons ⟨rfl, q⟩ .nil
  | (a, x) :: fs, (b, y) :: gs, .cons ⟨h1, h2⟩ t => by
    have h1' : a = b := h1
    subst h1'
    unfold putD L2.putF
    by_cases e : a = f
    · rw [if_pos e, if_pos e]; exact .cons ⟨rfl, q⟩ t
    · rw [if_neg e, if_neg e]; exact .cons ⟨rfl, h2⟩ (PD.putF q t)
theorem ss_fld {cs : List Str} {f : Str} (ho : SE X o mo) (hv : SE X v mv) (hc : ∀ C ∈ cs, FldOk X.K C f) (hs : swapsWith v (some (.Attribute o f pos')) pos.line X.env = pure false := by rfl) : SS X (.Assign [.Attribute o f pos'] v pos) (sFld cs f mo mv) := ⟨fun W tk => by
  refine PS.mono (ps_fld (ho.run W tk) (hv.run W tk) hs) fun Dn σ H h => ?_
  refine liftS.bind2 (f := fun l e d S2 => match d with
    | .ref n => match S2[n]? with
      | some (.ins C fs) => if cs.contains C && decide (fs.length < 1000) then .ok (.nx, l) (S2.set n (.ins C (putD f e fs))) else .bad
      | _ => .bad
    | _ => .bad) h fun R S l e d u v H' r hl he hd q => ?_
  cases d <;> first | exact False.elim q | skip
  rename_i n
  obtain ⟨b, rfl, hn⟩ := hd.refv
  dsimp only at q
  cases q1 : S[n]? with
  | none => simp only [q1] at q; exact False.elim q
  | some o =>
    simp only [q1] at q
    cases o <;> first | exact False.elim q | skip
    rename_i C fs
    by_cases z : (cs.contains C && decide (fs.length < 1000)) = true
    · dsimp only at q
      rw [if_pos z] at q
      obtain ⟨z1, z2⟩ := Bool.and_eq_true_iff.mp z
      obtain ⟨dx, gs, h1, h2⟩ := r.ob n b _ hn q1
      have ok := hc C (List.contains_iff_mem.mp z1)
      refine ⟨b, _, dx, gs, rfl, h1, ok.cls, ok.no, by rw [← h2.length]; exact of_decide_eq_true z2, ?_⟩
      have xx : Ext R H' R (upd H' b (.ins (He.ga X.K C) dx (putF f u gs))) := Ext.write (List.mem_of_getElem? hn) h1 rfl
      exact q R _ xx (r.write hn h1 rfl ⟨dx, _, upd_same, PD.mono (fun _ _ z => z) (fun _ _ z => r.sq xx z) (h2.putF he)⟩) σ (hl.ext r xx)
    · dsimp only at q
      rw [if_neg z] at q; exact False.elim q⟩
theorem ss_putK {i : Expr} {mi : ME} (hu : X.A.units + 1 < cLine) (ho : SE X o mo) (hi : SE X i mi) (hv : SE X v mv) (hs : swapsWith v (some (.Subscript o i pos')) pos.line X.env = pure false := by rfl) : SS X (.Assign [.Subscript o i pos'] v pos) (sPutK mo mi mv) := ⟨fun W tk => by
  refine PS.mono (ps_dput hu (ho.run W tk) (hi.run W tk) (hv.run W tk) hs) fun Dn σ H h => ?_
  refine liftS.bind2 (f := fun l e d S2 => (mi l S2).bind fun k S3 => match d, keyD k with
    | .ref n, some k => match S3[n]? with
      | some (.dK kvs) => if kvs.length < 1000000 then .ok (.nx, l) (S3.set n (.dK (putA kvs k e))) else .bad
      | _ => .bad
    | _, _ => .bad) h fun R S l e d u v H' r hl he hd q => ?_
  refine ⟨R, S, l, r, hl, (Out.bind q).impW (fun k S1 R1 H1 x1 r1 q5 y hy => ?_) fun _ _ _ q => q σ⟩
  cases d <;> first | exact False.elim q5 | skip
  rename_i n
  obtain ⟨b, rfl, hn⟩ := hd.refv
  cases q0 : keyD k with
  | none => simp only [q0] at q5; exact False.elim q5
  | some k =>
    simp only [q0] at q5
    have hn1 := x1.get hn
    cases q1 : S1[n]? with
    | none => simp only [q1] at q5; exact False.elim q5
    | some o =>
      simp only [q1] at q5
      cases o <;> first | exact False.elim q5 | skip
      rename_i kvs
      by_cases z : kvs.length < 1000000
      · simp only [z, if_true] at q5
        obtain ⟨gs, h1, h2⟩ := r1.ob n b _ hn1 q1
        have e1 := keyD_v hy q0
        subst e1
        refine ⟨b, _, rfl, DPut.k h1 (by rw [← h2.length, sizeLine_eq]; omega), ?_⟩
        have xx : Ext R1 H1 R1 (upd H1 b (.dK (putK gs k u))) := Ext.write (List.mem_of_getElem? hn1) h1 rfl
        exact q5 R1 _ xx (r1.write hn1 h1 rfl ⟨_, upd_same, PD.mono (fun _ _ z => z) (fun _ _ z => r1.sq xx z) (h2.put (he.ext r x1))⟩) σ ((hl.ext r x1).ext r1 xx)
      · simp only [z] at q5; exact False.elim q5⟩
end
end SL
set_option Elab.async false
set_option linter.all false
set_option maxRecDepth 100000
namespace SL
open PySem PySem.Spec PyProof.Rows L2

/-! ### operators in place, while -/
section
variable {X : Cx} {st : Stmt} {sts : List Stmt} {e o v c : Expr} {pos pos' p tpos : Pos} {m ms : MS} {me mo mv mk : ME} {mA : MA} {mt : MT} {W : WX} {σ : L2.St} {H : Hp} {Dn : Ends}
/-- x += e, x -= e of ints -/
theorem ss_augI {i : Nat} {x : Str} {op : Operator} {g : Int → Int → Int} (ho : PIp X op (ipI g)) (hN : X.N.Nodup) (hi : X.N[i]? = some x) (hx : L2.Loc X.env.scope x) (he : SE X e me) (hf : X.fn x = true ∨ X.env.scope.names.lookup x = some .local := by first | exact .inl rfl | exact .inr rfl | assumption) :
    SS X (.AugAssign (.Name x pos') op e pos) (sAug i (oI2 fun a b => .int (g a b)) me) := ⟨fun W tk => by
  refine PS.mono (ps_aug hN hi hx (he.run W tk) ho hf) fun Dn σ H ⟨R, S, l, r, hl, h⟩ => ?_
  unfold sAug at h
  cases z : l[i]? with
  | none => simp only [z] at h; exact False.elim h
  | some dd =>
    cases dd with
    | none => simp only [z] at h; exact False.elim h
    | some d =>
      simp only [z] at h
      obtain ⟨x, e1, hx⟩ := hl.2 i d z
      refine ⟨x, e1, R, S, l, r, hl, (Out.bind h).impW (fun b S1 R1 H1 x1 r1 q y hy => ?_) fun _ _ _ q => q σ⟩
      cases d <;> first | exact False.elim q | skip
      cases b <;> first | exact False.elim q | skip
      rename_i a b
      refine ⟨a, b, hx.intv, hy.intv, ?_⟩
      exact Out.pure q r1 _ ((hl.ext r x1).set (.int (g a b)))⟩
/-- e.f += n of ints -/
theorem ss_fldaugI {cs : List Str} {f : Str} {op : Operator} {g : Int → Int → Int} (hop : InOp X op (fun x y H Q => ∃ i j, x = .int i ∧ y = .int j ∧ Q (.int (g i j)) H)) (ho : SE X o mo) (hv : SE X v mv) (hc : ∀ C ∈ cs, FldOk X.K C f) :
    SS X (.AugAssign (.Attribute o f tpos) op v pos) (sFldAug cs f (oI2 fun a b => .int (g a b)) mo mv) := ⟨fun W tk => by
  refine PS.mono (ps_fldaug (ho.run W tk) (hv.run W tk) hop) fun Dn σ H ⟨R, S, l, r, hl, h⟩ => ?_
  refine ⟨R, S, l, r, hl, (Out.bind h).impW (fun d S1 R1 H1 x1 r1 q u hu => ?_) fun _ _ _ q => q σ⟩
  cases d <;> first | exact False.elim q | skip
  rename_i n
  obtain ⟨b, rfl, hn⟩ := hu.refv
  dsimp only at q
  cases q1 : S1[n]? with
  | none => simp only [q1] at q; exact False.elim q
  | some oo =>
    simp only [q1] at q
    cases oo <;> first | exact False.elim q | skip
    rename_i C fs
    dsimp only at q
    by_cases hC : cs.contains C = true
    · rw [if_pos hC] at q
      cases q2 : fs.lookup f with
      | none => simp only [q2] at q; exact False.elim q
      | some x0 =>
        simp only [q2] at q
        obtain ⟨dx, gs, h1, h2⟩ := r1.ob n b _ hn q1
        obtain ⟨y0, k1, k2⟩ := h2.lookup q2
        have ok := hc C (List.contains_iff_mem.mp hC)
        refine ⟨b, _, dx, gs, y0, rfl, h1, ok.cls, ok.no, k1, R1, S1, l, r1, hl.ext r x1, (Out.bind q).impW (fun y S2 R2 H2 x2 r2 q3 w hw => ?_) fun _ _ _ q => q σ⟩
        have hn2 := x2.get hn
        cases q4 : S2[n]? with
        | none => simp only [q4] at q3; exact False.elim q3
        | some o2 =>
          simp only [q4] at q3
          cases o2 <;> first | exact False.elim q3 | skip
          rename_i C' fs'
          dsimp only at q3
          by_cases z : C' = C ∧ fs'.length < 1000
          · rw [if_pos z] at q3
            obtain ⟨rfl, z2⟩ := z
            cases x0 <;> first | exact False.elim q3 | skip
            cases y <;> first | exact False.elim q3 | skip
            rename_i ia ib
            dsimp only [oI2] at q3
            refine ⟨ia, ib, k2.intv, hw.intv, ?_⟩
            obtain ⟨dx', gs', g1, g2⟩ := r2.ob n b _ hn2 q4
            refine ⟨dx', gs', g1, by rw [← g2.length]; exact z2, ?_⟩
            have xx : Ext R2 H2 R2 (upd H2 b (.ins (He.ga X.K C') dx' (L2.putF f (.int (g ia ib)) gs'))) := Ext.write (List.mem_of_getElem? hn2) g1 rfl
            exact q3 R2 _ xx (r2.write hn2 g1 rfl ⟨dx', _, upd_same, PD.mono (fun _ _ z => z) (fun _ _ z => r2.sq xx z) (g2.putF (.int _))⟩) σ (((hl.ext r x1).ext r1 x2).ext r2 xx)
          · rw [if_neg z] at q3; exact False.elim q3
    · rw [if_neg hC] at q; exact False.elim q⟩
theorem ss_while {body : List Stmt} {mb : MS} {n : Nat} (hp : PassesOwn (model X.prog X.w) X.A X.env X.xe) (hc : ST X c mt) (hb : SSs X body mb) : SS X (.While c body [] pos) (loopW n mt mb) := ⟨fun W tk => by
  refine PS.mono (ps_while hp (hc.run W tk) (hb.run W tk)) fun Dn σ H h => ?_
  refine ⟨fun m σ H => liftS X (loopW m mt mb) W Dn σ H, ⟨n, h⟩, fun m σ H h => ?_⟩
  cases m with
  | zero => obtain ⟨R, S, l, r, hl, h⟩ := h; exact False.elim h
  | succ m =>
    obtain ⟨R, S, l, r, hl, h⟩ := h
    refine ⟨R, S, l, r, hl, (Out.bind h).impW (fun k S1 R1 H1 x1 r1 q => ?_) fun _ _ _ q => q σ⟩
    cases k with
    | false =>
      rw [if_neg Bool.false_ne_true] at q ⊢
      exact Out.pure q r1 σ (hl.ext r x1)
    | true =>
      rw [if_pos rfl] at q ⊢
      refine ⟨fun σ' H' => liftS X (loopW m mt mb) W Dn σ' H', fun σ' H' h => ⟨m, Nat.lt_succ_self m, h⟩, R1, S1, l, r1, hl.ext r x1, (Out.bind q).imp fun f S2 R2 H2 x2 r2 q2 σ' hl' => ?_⟩
      obtain ⟨fl, l'⟩ := f
      cases fl with
      | nx => exact ⟨R2, S2, l', r2, hl', q2⟩
      | ct => exact ⟨R2, S2, l', r2, hl', q2⟩
      | bk => exact Out.pure q2 r2 σ' hl'
      | rt d => exact Out.pure q2 r2 σ' hl'⟩
end

/-! ### what is walked -/
/-- an iterator over the store: at turn i it is stuck (none), stops (some none), yields -/
abbrev Src := Nat → Sto → Option (Option D)
abbrev MI := Loc → Sto → Res Src
def ItR (X : Cx) (R0 : List Addr) (H0 : Hp) (it : Src) (J : It) : Prop :=
  ∀ i R S H, Ext R0 H0 R H → RelX X R S H → match it i S with
    | none => True
    | some none => J.stop i H
    | some (some d) => J.go i H ∧ ∀ x H', J.yld i H x H' → Ext R H R H' ∧ RelX X R S H' ∧ DV X.K R H' d x
section
variable (X : Cx)
def liftI (m : MI) (W : WX) : TI := fun σ H Rk => ∃ R S l, RelX X R S H ∧ LocR X.K R H l σ ∧ Out X (m l S) R H (fun c d H' => W c d σ H') fun it S' R' H' => ∀ J, ItR X R' H' it J → Rk J H'
structure SI (tg iter : Expr) (m : MI) : Prop where
  run : ∀ W : WX, Takes X W → PI X tg iter (liftI X m W)
end
/-- the items of a list, a tuple -/
def iSeq (a : ME) : MI := fun l S => (a l S).bind fun d S1 => match d with
  | .tup ds => .ok (fun i _ => some ds[i]?) S1
  | _ => .bad
def iLst (a : ME) : MI := fun l S => (a l S).bind fun d S1 => match d with
  | .ref n => match S1[n]? with
    | some (.lst _) => .ok (fun i S => match S[n]? with
      | some (.lst ds) => some ds[i]?
      | _ => none) S1
    | _ => .bad
  | _ => .bad
def iRng (lo : Int) (n : Nat) : Src := fun i _ => if i < n then some (some (.int (lo + i))) else some none
def iRange1 (a : MA) : MI := fun l S => (a l S).bind fun ds S1 => match ds with
  | [.int j] => if -4611686018427387904 ≤ j ∧ j < 4611686018427387904 then .ok (iRng 0 j.toNat) S1 else .bad
  | _ => .bad
def iRange2 (a : MA) : MI := fun l S => (a l S).bind fun ds S1 => match ds with
  | [.int i, .int j] => if (-4611686018427387904 ≤ i ∧ i < 4611686018427387904) ∧ -4611686018427387904 ≤ j ∧ j < 4611686018427387904 then .ok (iRng i (j - i).toNat) S1 else .bad
  | _ => .bad
def iEnum (a : MA) : MI := fun l S => (a l S).bind fun ds S1 => match ds with
  | [.ref n] => match S1[n]? with
    | some (.lst _) => .ok (fun i S => match S[n]? with
      | some (.lst ds) => some (ds[i]?.map fun d => .tup [.int i, d])
      | _ => none) S1
    | _ => .bad
  | _ => .bad
def iChars (a : ME) : MI := fun l S => (a l S).bind fun d S1 => match d with
  | .str x => .ok (fun i _ => some (x.cps[i]?.map fun c => .str ⟨#[c]⟩)) S1
  | _ => .bad
section
variable {X : Cx} {tg e a b : Expr} {me : ME} {mA : MA} {p pos tpos : Pos}
theorem PI.mono {wi wi' : TI} (h : PI X tg e wi) (f : ∀ σ H R, wi' σ H R → wi σ H R) : PI X tg e wi' := ⟨fun pins s σ H R I q => h.run pins s σ H R I (f σ H R q)⟩
theorem Rel.seqT {R : List Addr} {S : Sto} {H : Hp} {a : Addr} {vs ws : List V} {pins : List (Addr × Obj)} {σ : L2.St} {s : Shared} (I : Inv X pins σ H s) (h : SqT X.K H a vs) (h' : SqT X.K H a ws) : vs = ws := I.tuple_inj h h'
theorem si_tup (he : SE X e me) : SI X tg e (iSeq me) := ⟨fun W tk => by
  refine PI.mono (pi_tup (he.run W tk)) fun σ H Rk ⟨R, S, l, r, hl, h⟩ => ?_
  refine ⟨R, S, l, r, hl, (Out.bind h).imp fun d S1 R1 H1 x1 r1 q v hv => ?_⟩
  cases d <;> first | exact False.elim q | skip
  rename_i ds
  obtain ⟨a, xs, rfl, s, t⟩ := hv.tupv
  refine ⟨a, rfl, ⟨xs, s⟩, Out.pure q r1 (Itt X.K a) fun i R S H x r => ?_⟩
  have s' := r1.sq x s
  have t' := t.ext r1 x
  cases z : ds[i]? with
  | none =>
    simp only [z]
    exact ⟨xs, s', by rw [← t.length]; exact List.getElem?_eq_none_iff.mp z⟩
  | some d =>
    simp only [z]
    obtain ⟨y, k1, k2⟩ := t'.get z
    refine ⟨⟨xs, y, s', k1⟩, fun u H' hy => ?_⟩
    obtain ⟨e1, e2⟩ := hy
    subst e1
    have k3 := e2 xs s'
    rw [k1] at k3
    cases k3
    exact ⟨.refl, r, k2⟩⟩
theorem si_lst (he : SE X e me) : SI X tg e (iLst me) := ⟨fun W tk => by
  refine PI.mono (pi_list (he.run W tk)) fun σ H Rk ⟨R, S, l, r, hl, h⟩ => ?_
  refine ⟨R, S, l, r, hl, (Out.bind h).imp fun d S1 R1 H1 x1 r1 q v hv => ?_⟩
  cases d <;> first | exact False.elim q | skip
  rename_i n
  obtain ⟨a, rfl, hn⟩ := hv.refv
  dsimp only at q
  cases q1 : S1[n]? with
  | none => simp only [q1] at q; exact False.elim q
  | some o =>
    simp only [q1] at q
    cases o <;> first | exact False.elim q | skip
    obtain ⟨vs, h1, h2⟩ := r1.ob n a _ hn q1
    refine ⟨a, rfl, ⟨vs, .of h1⟩, Out.pure q r1 (Itl X.K a) fun i R S H x r => ?_⟩
    cases z : S[n]? with
    | none => simp only [z]
    | some o =>
      cases o <;> first | (simp only [z]; done) | skip
      rename_i ds
      obtain ⟨ws, g1, g2⟩ := r.ob n a _ (x.get hn) z
      simp only [z]
      cases z2 : ds[i]? with
      | none => exact ⟨ws, .of g1, by rw [← g2.length]; exact List.getElem?_eq_none_iff.mp z2⟩
      | some d =>
        obtain ⟨y, k1, k2⟩ := g2.get z2
        refine ⟨⟨ws, y, .of g1, k1⟩, fun u H' hy => ?_⟩
        obtain ⟨e1, e2⟩ := hy
        subst e1
        have k3 := e2 ws (.of g1)
        rw [k1] at k3
        cases k3
        exact ⟨.refl, r, k2⟩⟩
theorem itr_rng {R : List Addr} {H : Hp} {lo : Int} {n : Nat} : ItR X R H (iRng lo n) (Itr lo n) := fun i R S H x r => by
  unfold iRng
  by_cases z : i < n
  · simp only [z, if_true]
    refine ⟨z, fun u H' hy => ?_⟩
    obtain ⟨e1, e2⟩ := hy
    subst e1; subst e2
    exact ⟨.refl, r, .int _⟩
  · simp only [z, if_false]
    exact Nat.le_of_not_lt z
theorem p62 : ((2 : Int) ^ 62) = 4611686018427387904 := by decide
theorem si_range1 (hg : Gl X "range") (hm : X.mg "range" = none) (ha : SA X [a] mA) (hs : starEach [a] X.env = [(false, eval a X.env)] := by rfl) : SI X tg (.Call (.Name "range" p) [a] [] pos) (iRange1 mA) := ⟨fun W tk => by
  refine PI.mono (pi_range1 hg hm (ha.run W tk) hs) fun σ H Rk ⟨R, S, l, r, hl, h⟩ => ?_
  refine ⟨R, S, l, r, hl, (Out.bind h).imp fun ds S1 R1 H1 x1 r1 q vs hvs => ?_⟩
  cases ds with
  | nil => exact False.elim q
  | cons d t =>
    cases t with
    | cons _ _ => cases d <;> exact False.elim q
    | nil =>
      obtain ⟨v, rfl, hv⟩ := hvs.one
      cases d <;> first | exact False.elim q | skip
      rename_i j
      by_cases z : -4611686018427387904 ≤ j ∧ j < 4611686018427387904
      · simp only [z, and_self, if_true] at q
        have e := hv.intv
        subst e
        exact ⟨j, rfl, by rw [p62]; exact z.1, by rw [p62]; exact z.2, Out.pure q r1 _ itr_rng⟩
      · dsimp only at q; rw [if_neg z] at q; exact False.elim q⟩
theorem si_range2 (hg : Gl X "range") (hm : X.mg "range" = none) (ha : SA X [a, b] mA) (hs : starEach [a, b] X.env = [(false, eval a X.env), (false, eval b X.env)] := by rfl) (hs2 : starEach [b] X.env = [(false, eval b X.env)] := by rfl) : SI X tg (.Call (.Name "range" p) [a, b] [] pos) (iRange2 mA) := ⟨fun W tk => by
  refine PI.mono (pi_range2 hg hm (ha.run W tk) hs hs2) fun σ H Rk ⟨R, S, l, r, hl, h⟩ => ?_
  refine ⟨R, S, l, r, hl, (Out.bind h).imp fun ds S1 R1 H1 x1 r1 q vs hvs => ?_⟩
  cases ds with
  | nil => exact False.elim q
  | cons d t =>
    cases t with
    | nil => cases d <;> exact False.elim q
    | cons d2 t =>
      cases t with
      | cons _ _ => cases d <;> cases d2 <;> exact False.elim q
      | nil =>
        obtain ⟨v, u, rfl, hv, hu⟩ := hvs.two
        cases d <;> cases d2 <;> first | exact False.elim q | skip
        rename_i i j
        by_cases z : (-4611686018427387904 ≤ i ∧ i < 4611686018427387904) ∧ -4611686018427387904 ≤ j ∧ j < 4611686018427387904
        · dsimp only at q; rw [if_pos z] at q
          have e := hv.intv
          have e2 := hu.intv
          subst e; subst e2
          refine ⟨i, j, rfl, ?_, Out.pure q r1 _ itr_rng⟩
          rw [p62]
          exact ⟨z.1.1, z.1.2, z.2.1, z.2.2⟩
        · dsimp only at q; rw [if_neg z] at q; exact False.elim q⟩
end
end SL
set_option Elab.async false
set_option linter.all false
set_option maxRecDepth 100000
namespace SL
open PySem PySem.Spec PyProof.Rows L2

/-! ### targets -/
inductive Tg where
  | nm (i : Nat) | tp (ts : List Tg)
mutual
def Tg.put : Tg → D → Loc → Option Loc
  | .nm i, d, l => some (l.set i (some d))
  | .tp ts, .tup ds, l => puts ts ds l
  | .tp _, _, _ => none
def puts : List Tg → List D → Loc → Option Loc
  | [], [], l => some l
  | t :: ts, d :: ds, l => match Tg.put t d l with
    | some l' => puts ts ds l'
    | none => none
  | _, _, _ => none
end
mutual
def Tg.slots : Tg → List Nat
  | .nm i => [i]
  | .tp ts => slotsL ts
def slotsL : List Tg → List Nat
  | [] => []
  | t :: ts => Tg.slots t ++ slotsL ts
end
mutual
def Tg.g (K : PySem.W.Frag) : Tg → TG
  | .nm i => gName i
  | .tp ts => gTup K ts.length (gsL K ts)
def gsL (K : PySem.W.Frag) : List Tg → TGs
  | [] => gNil
  | t :: ts => gCons (Tg.g K t) (gsL K ts)
end
theorem wipe_set_in {i : Nat} {x : Option V} : ∀ {vs : List Nat} {σ : L2.St}, i ∈ vs → wipe (σ.set i x) vs = wipe σ vs
  | v :: vs, σ, h => by
    unfold wipe
    by_cases hv : i ∈ vs
    · rw [wipe_set_in hv]
    · have e : i = v := by
        rcases List.mem_cons.mp h with z | z
        · exact z
        · exact absurd z hv
      subst e
      have : ∀ (ws : List Nat) (σ : L2.St), (wipe (σ.set i x) ws).set i none = (wipe σ ws).set i none := by
        intro ws
        induction ws with
        | nil => intro σ; unfold wipe; rw [List.set_set]
        | cons u us ih =>
          intro σ
          unfold wipe
          by_cases q : u = i
          · subst q; rw [List.set_set, List.set_set, ih]
          · rw [List.set_comm _ _ q, ih, List.set_comm _ _ (Ne.symm q)]
      exact this vs σ
theorem wipe_none {v : Nat} : ∀ {vs : List Nat} {σ : L2.St}, v ∈ vs → (wipe σ vs).set v none = wipe σ vs
  | u :: us, σ, h => by
    unfold wipe
    by_cases q : u = v
    · subst q; rw [List.set_set]
    · rw [List.set_comm _ _ q, wipe_none (by rcases List.mem_cons.mp h with z | z; exact absurd z.symm q; exact z)]
theorem wipe_sub {ws : List Nat} {σ : L2.St} : ∀ {vs : List Nat}, (∀ i ∈ vs, i ∈ ws) → wipe (wipe σ ws) vs = wipe σ ws
  | [], _ => rfl
  | v :: vs, h => by
    show (wipe (wipe σ ws) vs).set v none = _
    rw [wipe_sub fun i hi => h i (List.mem_cons_of_mem _ hi), wipe_none (h v (List.mem_cons_self))]
theorem wipe_wipe {vs : List Nat} {σ : L2.St} : wipe (wipe σ vs) vs = wipe σ vs := wipe_sub fun _ h => h
section
variable {X : Cx} {K : PySem.W.Frag}
mutual
theorem Tg.run {R : List Addr} {S : Sto} {H : Hp} : ∀ {t : Tg} {d : D} {v : V} {l l' : Loc} {σ : L2.St} {Q : L2.St → Hp → Prop}, DV K R H d v → LocR K R H l σ → t.put d l = some l' → (∀ σ', LocR K R H l' σ' → (∀ vs, (∀ i ∈ t.slots, i ∈ vs) → wipe σ' vs = wipe σ vs) → Q σ' H) → t.g K v σ H Q
  | .nm i, d, v, l, l', σ, Q, hd, hl, e, k => by
    cases e
    exact k _ (hl.set hd) fun vs h => wipe_set_in (h i (by simp [Tg.slots]))
  | .tp ts, d, v, l, l', σ, Q, hd, hl, e, k => by
    cases hd with
    | tup s t =>
      rename_i ds a xs
      have e' : puts ts ds l = some l' := e
      exact ⟨a, xs, rfl, s, by rw [← t.length]; exact (puts_length e').symm, runs (R := R) (S := S) t hl e' fun σ' h1 h2 => k σ' h1 h2⟩
    | _ => cases e
theorem runs {R : List Addr} {S : Sto} {H : Hp} : ∀ {ts : List Tg} {ds : List D} {vs : List V} {l l' : Loc} {σ : L2.St} {Q : L2.St → Hp → Prop}, DVs K R H ds vs → LocR K R H l σ → puts ts ds l = some l' → (∀ σ', LocR K R H l' σ' → (∀ vs, (∀ i ∈ slotsL ts, i ∈ vs) → wipe σ' vs = wipe σ vs) → Q σ' H) → gsL K ts vs σ H Q
  | [], ds, vs, l, l', σ, Q, hd, hl, e, k => by
    cases hd with
    | nil => cases e; exact ⟨rfl, k σ hl fun _ _ => rfl⟩
    | cons _ _ => cases e
  | t :: ts, ds, vs, l, l', σ, Q, hd, hl, e, k => by
    cases hd with
    | nil => cases e
    | cons h1 h2 =>
      rename_i d v ds vs
      have e' : (match Tg.put t d l with
        | some l' => puts ts ds l'
        | none => none) = some l' := e
      cases q : Tg.put t d l with
      | none => rw [q] at e'; cases e'
      | some l1 =>
        rw [q] at e'
        refine ⟨v, vs, rfl, Tg.run (S := S) h1 hl q fun σ1 k1 k2 => runs (S := S) h2 k1 e' fun σ2 k3 k4 => k σ2 k3 fun ws hw => ?_⟩
        have hs : ∀ i, i ∈ slotsL (t :: ts) ↔ i ∈ t.slots ++ slotsL ts := fun i => Iff.rfl
        rw [k4 ws fun i hi => hw i ((hs i).mpr (List.mem_append_right _ hi)), k2 ws fun i hi => hw i ((hs i).mpr (List.mem_append_left _ hi))]
theorem puts_length : ∀ {ts : List Tg} {ds : List D} {l l' : Loc}, puts ts ds l = some l' → ts.length = ds.length
  | [], [], _, _, _ => rfl
  | t :: ts, d :: ds, l, l', e => by
    have e' : (match Tg.put t d l with
      | some l' => puts ts ds l'
      | none => none) = some l' := e
    cases q : Tg.put t d l with
    | none => rw [q] at e'; cases e'
    | some l1 => rw [q] at e'; exact congrArg (· + 1) (puts_length e')
  | [], _ :: _, _, _, e => by cases e
  | _ :: _, [], _, _, e => by cases e
end
end
abbrev SG (X : Cx) (e : Expr) (t : Tg) : Prop := PG X e (t.g X.K)
abbrev SGs (X : Cx) (es : List Expr) (ts : List Tg) : Prop := PGs X es (gsL X.K ts)
section
variable {X : Cx} {pos : Pos}
theorem sg_name {i : Nat} {x : Str} (hN : X.N.Nodup) (hi : X.N[i]? = some x) (hx : L2.Loc X.env.scope x) (hf : X.fn x = true ∨ X.env.scope.names.lookup x = some .local := by first | exact .inl rfl | exact .inr rfl | assumption) : SG X (.Name x pos) (.nm i) := pg_name hN hi hx hf
theorem sg_nil : SGs X [] [] := pgs_nil
theorem sg_cons {e : Expr} {es : List Expr} {t : Tg} {ts : List Tg} (h1 : SG X e t) (h2 : SGs X es ts) (hs : (assignEach (e :: es) X.env).map (·.2) = assign e X.env :: (assignEach es X.env).map (·.2) := by rfl) : SGs X (e :: es) (t :: ts) := pgs_cons h1 h2 hs
theorem sg_tup {es : List Expr} {k : Nat} {ts : List Tg} (hc : X.calm = true) (h : SGs X es ts) (hn : (assignEach es X.env).length = ts.length := by rfl) (hst : (assignEach es X.env).findIdx? (·.1) = none := by rfl) : SG X (.Tuple es k pos) (.tp ts) := pg_tup hc h hn hst
end

/-! ### for -/
def forM (it : Src) (t : Tg) (b : MS) : Nat → Nat → MS
  | 0, _ => fun _ _ => .bad
  | n + 1, i => fun l S => match it i S with
    | none => .bad
    | some none => .ok (.nx, l) S
    | some (some d) => match t.put d l with
      | none => .bad
      | some l' => (b l' S).bind fun f S2 => match f.1 with
        | .nx => forM it t b n (i + 1) f.2 S2
        | .ct => forM it t b n (i + 1) f.2 S2
        | .bk => .ok (.nx, f.2) S2
        | .rt d => .ok (.rt d, f.2) S2
def sFor (n : Nat) (mi : MI) (t : Tg) (b : MS) : MS := fun l S => (mi l S).bind fun it S1 => forM it t b n 0 l S1
def sAsg (t : Tg) (m : ME) : MS := fun l S => (m l S).bind fun d S1 => match t.put d l with
  | some l' => .ok (.nx, l') S1
  | none => .bad
section
variable {X : Cx} {tg iter e : Expr} {pos : Pos} {mi : MI} {me : ME} {t : Tg} {mb : MS} {body : List Stmt} {n : Nat}
theorem ss_for (hp : PassesOwn (model X.prog X.w) X.A X.env X.xe) (hc : X.calm = true) (hi : SI X tg iter mi) (hg : SG X tg t) (hb : SSs X body mb) (hs : ∀ x, foldedSetIterable iter X.env x = pure x := by intro _; rfl) : SS X (.For tg iter body [] pos) (sFor n mi t mb) := ⟨fun W tk => by
  refine PS.mono (ps_for hp hc (hi.run W tk) hg (hb.run W tk) hs) fun Dn σ H ⟨R0, S0, l0, r0, hl0, h⟩ => ?_
  refine ⟨R0, S0, l0, r0, hl0, (Out.bind h).impW (fun it S1 R1 H1 x1 r1 q J hJ => ?_) fun _ _ _ q => q σ⟩
  refine ⟨fun i m σ H => ∃ R S l, RelX X R S H ∧ LocR X.K R H l σ ∧ Ext R1 H1 R H ∧ Out X (forM it t mb m i l S) R H (fun c d H' => ∀ σ' : L2.St, W c d σ' H') fun f _ R' H' => ∀ σ', LocR X.K R' H' f.2 σ' → EndF X Dn R' H' σ' f.1, ⟨n, R1, S1, l0, r1, hl0.ext r0 x1, .refl, q⟩, ?_⟩
  rintro i m σ H ⟨R, S, l, r, hl, x, q⟩
  cases m with
  | zero => exact False.elim q
  | succ m =>
    unfold forM at q
    have hj := hJ i R S H x r
    cases z : it i S with
    | none => simp only [z] at q; exact False.elim q
    | some o =>
      simp only [z] at q hj
      cases o with
      | none => exact .inl ⟨hj, Out.pure q r σ hl⟩
      | some d =>
        simp only at q hj
        obtain ⟨j1, j2⟩ := hj
        cases z2 : t.put d l with
        | none => simp only [z2] at q; exact False.elim q
        | some l' =>
          simp only [z2] at q
          refine .inr ⟨j1, fun σ' H' => ∃ R S l, RelX X R S H' ∧ LocR X.K R H' l σ' ∧ Ext R1 H1 R H' ∧ Out X (forM it t mb m (i + 1) l S) R H' (fun c d H' => ∀ σ' : L2.St, W c d σ' H') (fun f _ R' H' => ∀ σ', LocR X.K R' H' f.2 σ' → EndF X Dn R' H' σ' f.1), fun σ' H' hh => ⟨m, Nat.lt_succ_self m, hh⟩, fun v H' hy => ?_⟩
          obtain ⟨k1, k2, k3⟩ := j2 v H' hy
          refine Tg.run (S := S) k3 (hl.ext r k1) z2 fun σ2 g1 _ => ?_
          refine ⟨R, S, l', k2, g1, (Out.bind (Out.shift q k1 k2.some)).imp fun f S3 R3 H3 x3 r3 q3 σ' hl' => ?_⟩
          obtain ⟨fl, l3⟩ := f
          have xx : Ext R1 H1 R3 H3 := (x.trans k1 r.some).trans x3 k2.some
          cases fl with
          | nx => exact ⟨R3, S3, l3, r3, hl', xx, q3⟩
          | ct => exact ⟨R3, S3, l3, r3, hl', xx, q3⟩
          | bk => exact Out.pure q3 r3 σ' hl'
          | rt d => exact Out.pure q3 r3 σ' hl'⟩
theorem ss_asg (he : SE X e me) (hg : SG X tg t) (hs : swapsWithSole [tg] e pos.line X.env = pure false := by rfl) (hw : swappedStores [tg] e X.env = pure none := by rfl)
    (h1 : (assignEach [tg] X.env).map (·.2) = [assign tg X.env] := by rfl) : SS X (.Assign [tg] e pos) (sAsg t me) := ⟨fun W tk => by
  refine PS.mono (ps_asg (he.run W tk) hg hs hw h1) fun Dn σ H h => ?_
  refine liftS.bind (f := fun l d S1 => match t.put d l with
    | some l' => .ok (.nx, l') S1
    | none => .bad) h fun R S l d v H' r hl hv q => ?_
  cases z : t.put d l with
  | none => simp only [z] at q; exact False.elim q
  | some l' =>
    simp only [z] at q
    exact Tg.run (S := S) hv hl z fun σ2 g1 _ => Out.pure q r σ2 g1⟩
end

/-! ### list comprehensions -/
def wipeD (l : Loc) : List Nat → Loc
  | [] => l
  | v :: vs => (wipeD l vs).set v none
def tYesM : MT := fun _ S => .ok true S
def lcM (it : Src) (t : Tg) (mt : MT) (me : ME) (l : Loc) (p : Nat) : Nat → Nat → Sto → Res D
  | 0, _, _ => .bad
  | n + 1, i, S => match it i S with
    | none => .bad
    | some none => .ok (.ref p) S
    | some (some d) => match t.put d l with
      | none => .bad
      | some l' => (noErr (mt l' S)).bind fun k S2 => if k = true then (noErr (me l' S2)).bind fun y S3 => (match S3[p]? with
          | some (.lst acc) => if acc.length < 1000000 then lcM it t mt me l p n (i + 1) (S3.set p (.lst (acc ++ [y]))) else .bad
          | _ => .bad) else lcM it t mt me l p n (i + 1) S2
def eLc (n : Nat) (mi : MI) (t : Tg) (mt : MT) (me : ME) (vs : List Nat) : ME := fun l S => (mi l S).bind fun it S1 => lcM it t mt me (wipeD l vs) S1.length n 0 (S1 ++ [.lst []])
def W0 : WX := fun _ _ _ _ => False
structure STs (X : Cx) (ifs : List Expr) (mt : MT) : Prop where
  run : ∀ W : WX, Takes X W → PTs X ifs (liftT X mt W)
section
variable {X : Cx}
theorem LocR.wipe {R : List Addr} {H : Hp} {l : Loc} {σ : L2.St} (h : LocR X.K R H l σ) : ∀ vs : List Nat, LocR X.K R H (wipeD l vs) (wipe σ vs)
  | [] => h
  | v :: vs => by
    have ih := LocR.wipe h vs
    unfold wipeD L2.wipe
    refine ⟨by simp [ih.1], fun j e hj => ?_⟩
    by_cases hji : v = j
    · subst hji
      rw [List.getElem?_set] at hj
      simp only [if_true] at hj
      split at hj <;> cases hj
    · rw [List.getElem?_set_ne hji] at hj ⊢
      exact ih.2 j e hj
theorem takes0 {X : Cx} : Takes X W0 := fun u s' ⟨_, _, _, _, _, _, _, _, _, _, _, _, _, _, _, _, w⟩ => False.elim w
theorem sts_nil : STs X [] tYesM := ⟨fun W tk => ⟨fun pins s σ H Q I ⟨R, S, l, r, hl, h⟩ => pts_nil.run pins s σ H Q I (Out.pure (W := fun c d H' => W c d σ H') h r)⟩⟩
theorem sts_one {c : Expr} {mt : MT} (h : ST X c mt) : STs X [c] mt := ⟨fun W tk => pts_one (h.run W tk)⟩
variable {elt tg iter : Expr} {ifs : List Expr} {scope : Scope} {own : List (Str × Nat)} {pos spos : Pos} {mi : MI} {t : Tg} {mt : MT} {me : ME} {n : Nat}
theorem lc_run {W : WX} {σ : L2.St} {H : Hp} {Q : VK} (hsl : ∀ i ∈ t.slots, i ∈ own.map (·.2)) (h : liftE X (eLc n mi t mt me (own.map (·.2))) W σ H Q) :
    tLc (liftI X mi W) (t.g X.K) (liftT X mt W0) (liftE X me W0) (own.map (·.2)) σ H Q := by
  obtain ⟨R0, S0, l0, r0, hl0, h⟩ := h
  refine ⟨R0, S0, l0, r0, hl0, (Out.bind h).imp fun it S1 R1 H1 x1 r1 q J hJ p hp => ?_⟩
  have x2 : Ext R1 H1 (R1 ++ [p]) (upd H1 p (.lst [])) := Ext.push hp
  have r2 : RelX X (R1 ++ [p]) (S1 ++ [.lst []]) (upd H1 p (.lst [])) := r1.push hp ⟨[], upd_same, .nil⟩
  have hlw : LocR X.K (R1 ++ [p]) (upd H1 p (.lst [])) (wipeD l0 (own.map (·.2))) (wipe σ (own.map (·.2))) := ((hl0.ext r0 x1).ext r1 x2).wipe _
  refine ⟨fun i m H => ∃ R S, RelX X R S H ∧ LocR X.K R H (wipeD l0 (own.map (·.2))) (wipe σ (own.map (·.2))) ∧ Ext R1 H1 R H ∧ R[S1.length]? = some p ∧ Out X (lcM it t mt me (wipeD l0 (own.map (·.2))) S1.length m i S) R H (fun c d H' => W c d σ H') fun d _ R' H' => ∀ v, DV X.K R' H' d v → Q v H',
    ⟨n, _, _, r2, hlw, x2, get_last r1, Out.shift q x2 r2.some⟩, ?_⟩
  rintro i m H ⟨R, S, r, hl, x, hpi, q⟩
  cases m with
  | zero => exact False.elim q
  | succ m =>
    unfold lcM at q
    have hj := hJ i R S H x r
    cases z : it i S with
    | none => simp only [z] at q; exact False.elim q
    | some o =>
      simp only [z] at q hj
      cases o with
      | none => exact .inl ⟨hj, Out.pure q r _ (.ref hpi)⟩
      | some d =>
        simp only at q hj
        obtain ⟨j1, j2⟩ := hj
        cases z2 : t.put d (wipeD l0 (own.map (·.2))) with
        | none => simp only [z2] at q; exact False.elim q
        | some l' =>
          simp only [z2] at q
          refine .inr ⟨j1, fun H => ∃ R S, RelX X R S H ∧ LocR X.K R H (wipeD l0 (own.map (·.2))) (wipe σ (own.map (·.2))) ∧ Ext R1 H1 R H ∧ R[S1.length]? = some p ∧ Out X (lcM it t mt me (wipeD l0 (own.map (·.2))) S1.length m (i + 1) S) R H (fun c d H' => W c d σ H') fun d _ R' H' => ∀ v, DV X.K R' H' d v → Q v H', fun H' hh => ⟨m, Nat.lt_succ_self m, hh⟩, fun v H' hy => ?_⟩
          obtain ⟨k1, k2, k3⟩ := j2 v H' hy
          have hl1 := hl.ext r k1
          refine Tg.run (S := S) k3 hl1 z2 fun σ2 g1 g2 => ⟨(g2 _ hsl).trans wipe_wipe, R, S, l', k2, g1, ?_⟩
          refine noErr_out (((Out.bind (Out.shift q k1 k2.some))).imp fun k S3 R3 H3 x3 r3 q3 => ?_)
          have xx : Ext R1 H1 R3 H3 := (x.trans k1 r.some).trans x3 k2.some
          cases k with
          | false =>
            dsimp only
            rw [if_neg Bool.false_ne_true] at q3 ⊢
            exact ⟨R3, S3, r3, hl1.ext k2 x3, xx, x3.get hpi, q3⟩
          | true =>
            dsimp only
            rw [if_pos rfl] at q3 ⊢
            refine ⟨R3, S3, l', r3, g1.ext k2 x3, noErr_out ((Out.bind q3).imp fun y S4 R4 H4 x4 r4 q4 u hu => ?_)⟩
            have hp4 : R4[S1.length]? = some p := x4.get (x3.get hpi)
            cases z3 : S4[S1.length]? with
            | none => simp only [z3] at q4; exact False.elim q4
            | some o =>
              simp only [z3] at q4
              cases o <;> first | exact False.elim q4 | skip
              rename_i acc
              simp only at q4
              by_cases z4 : acc.length < 1000000
              · rw [if_pos z4] at q4
                obtain ⟨vs, h1, h2⟩ := r4.ob _ p _ hp4 z3
                have x5 : Ext R4 H4 R4 (upd H4 p (.lst (vs ++ [u]))) := Ext.write (List.mem_of_getElem? hp4) h1 rfl
                have r5 : RelX X R4 (S4.set S1.length (.lst (acc ++ [y]))) (upd H4 p (.lst (vs ++ [u]))) := r4.write hp4 h1 rfl ⟨_, upd_same, (h2.snoc hu).ext r4 x5⟩
                refine ⟨vs, h1, by rw [← h2.length, sizeLine_eq]; omega, R4, _, r5, ((hl1.ext k2 x3).ext r3 x4).ext r4 x5, (xx.trans x4 r3.some).trans x5 r4.some, hp4, Out.shift q4 x5 r5.some⟩
              · rw [if_neg z4] at q4; exact False.elim q4
theorem se_lc (hc : X.calm = true) (hN : X.N.Nodup) (hi : SI X tg iter mi) (ok : BlkOk X.N X.env.scope scope own)
    (hg : ∀ (s : Shared) (H : Hp) (C : Addr) (cl : List (Str × Addr)) (fp : List Addr), SG (X.blk s H scope (compEnvC scope cl C X.env) fp) tg t) (ht : ∀ (s : Shared) (H : Hp) (C : Addr) (cl : List (Str × Addr)) (fp : List Addr), STs (X.blk s H scope (compEnvC scope cl C X.env) fp) ifs mt)
    (he : ∀ (s : Shared) (H : Hp) (C : Addr) (cl : List (Str × Addr)) (fp : List Addr), SE (X.blk s H scope (compEnvC scope cl C X.env) fp) elt me) (hsl : t.slots.all (fun i => (own.map (·.2)).contains i) = true := by rfl) (hs : ∀ x, foldedSetIterable iter X.env x = pure x := by intro _; rfl) :
    SE X (.ListComp elt [⟨tg, iter, ifs, 0⟩] scope pos) (eLc n mi t mt me (own.map (·.2))) := ⟨fun W tk => by
  refine PE.mono (pe_lc (g := t.g X.K) (tt := liftT X mt W0) (te := liftE X me W0) hc hN (hi.run W tk) ok hg (fun s H C cl fp => (ht s H C cl fp).run W0 takes0) (fun s H C cl fp => (he s H C cl fp).run W0 takes0) hs) fun σ H Q h => ?_
  exact lc_run (fun i hi => List.contains_iff_mem.mp (List.all_eq_true.mp hsl i hi)) h⟩
theorem ss_setLc {i : Nat} {y : Str} {py : Pos} (hc : X.calm = true) (hN : X.N.Nodup) (hy : X.N[i]? = some y) (hyl : X.env.scope.names.lookup y = some .local)
    (hsw : swapsWith (.ListComp elt [⟨tg, iter, ifs, 0⟩] scope pos) (some (.Name y py)) spos.line X.env = pure true) (hi : SI X tg iter mi) (ok : BlkOk X.N X.env.scope scope own)
    (hg : ∀ (s : Shared) (H : Hp) (C : Addr) (cl : List (Str × Addr)) (fp : List Addr), SG (X.blk s H scope (compEnvC scope cl C X.env) fp) tg t) (ht : ∀ (s : Shared) (H : Hp) (C : Addr) (cl : List (Str × Addr)) (fp : List Addr), STs (X.blk s H scope (compEnvC scope cl C X.env) fp) ifs mt)
    (he : ∀ (s : Shared) (H : Hp) (C : Addr) (cl : List (Str × Addr)) (fp : List Addr), SE (X.blk s H scope (compEnvC scope cl C X.env) fp) elt me) (hsl : t.slots.all (fun i => (own.map (·.2)).contains i) = true := by rfl) (hs : ∀ x, foldedSetIterable iter X.env x = pure x := by intro _; rfl) :
    SS X (.Assign [.Name y py] (.ListComp elt [⟨tg, iter, ifs, 0⟩] scope pos) spos) (sSet i (eLc n mi t mt me (own.map (·.2)))) := ⟨fun W tk => by
  refine PS.mono (ps_setLc (g := t.g X.K) (tt := liftT X mt W0) (te := liftE X me W0) hc hN hy hyl hsw (hi.run W tk) ok hg (fun s H C cl fp => (ht s H C cl fp).run W0 takes0) (fun s H C cl fp => (he s H C cl fp).run W0 takes0) hs) fun Dn σ H h => ?_
  refine lc_run (n := n) (W := W) (fun i hi => List.contains_iff_mem.mp (List.all_eq_true.mp hsl i hi)) ?_
  exact liftS.bind (f := fun l d S1 => .ok (.nx, l.set i (some d)) S1) h fun R S l d v H' r hl hv q => Out.pure q r _ (hl.set hv)⟩
end
end SL
set_option Elab.async false
set_option linter.all false
set_option maxRecDepth 100000
namespace SL
open PySem PySem.Spec PyProof.Rows L2

/-! ### enumerate(list), the signs of a text -/
section
variable {X : Cx} {tg e : Expr} {me : ME} {mA : MA} {p pos tpos : Pos}
theorem si_enum {elts : List Expr} {kk : Nat} (hg : Gl X "enumerate") (hm : X.mg "enumerate" = none) (ha : SA X [e] mA) (hs : starEach [e] X.env = [(false, eval e X.env)] := by rfl) : SI X (.Tuple elts kk tpos) (.Call (.Name "enumerate" p) [e] [] pos) (SL.iEnum mA) := ⟨fun W tk => by
  refine PI.mono (pi_enum hg hm (ha.run W tk) hs) fun σ H Rk ⟨R, S, l, r, hl, h⟩ => ?_
  refine ⟨R, S, l, r, hl, (Out.bind h).imp fun ds S1 R1 H1 x1 r1 q vs hvs => ?_⟩
  cases ds with
  | nil => exact False.elim q
  | cons d t =>
    cases t with
    | cons _ _ => cases d <;> exact False.elim q
    | nil =>
      obtain ⟨v, rfl, hv⟩ := hvs.one
      cases d <;> first | exact False.elim q | skip
      rename_i n
      obtain ⟨a, rfl, hn⟩ := hv.refv
      dsimp only at q
      cases q1 : S1[n]? with
      | none => simp only [q1] at q; exact False.elim q
      | some o =>
        simp only [q1] at q
        cases o <;> first | exact False.elim q | skip
        obtain ⟨vs, h1, h2⟩ := r1.ob n a _ hn q1
        refine ⟨a, vs, rfl, .of h1, Out.pure q r1 (Ite X.K a) fun i R S H x r => ?_⟩
        cases z : S[n]? with
        | none => simp only [z]
        | some o =>
          cases o <;> first | (simp only [z]; done) | skip
          rename_i ds
          obtain ⟨ws, g1, g2⟩ := r.ob n a _ (x.get hn) z
          simp only [z]
          cases z2 : ds[i]? with
          | none => exact ⟨ws, .of g1, by rw [← g2.length]; exact List.getElem?_eq_none_iff.mp z2⟩
          | some d =>
            obtain ⟨y, k1, k2⟩ := g2.get z2
            refine ⟨⟨ws, y, .of g1, k1⟩, fun u H' hy => ?_⟩
            obtain ⟨T, x, e1, e2, e3, e4⟩ := hy
            subst e1; subst e3
            have k3 := e4 ws (.of g1)
            rw [k1] at k3
            cases k3
            exact ⟨.fresh e2, r.fresh e2, .tup (.of upd_same) (.cons (.int _) (.cons (k2.ext r (.fresh e2)) .nil))⟩⟩
theorem si_str (he : SE X e me) : SI X tg e (iChars me) := ⟨fun W tk => by
  refine PI.mono (pi_str (he.run W tk)) fun σ H Rk ⟨R, S, l, r, hl, h⟩ => ?_
  refine ⟨R, S, l, r, hl, (Out.bind h).imp fun d S1 R1 H1 x1 r1 q v hv => ?_⟩
  cases d <;> first | exact False.elim q | skip
  rename_i x
  refine ⟨x, hv.strv, Out.pure q r1 (Its x) fun i R S H xx r => ?_⟩
  cases z : x.cps[i]? with
  | none => simp only [z]; exact Array.getElem?_eq_none_iff.mp z
  | some c =>
    simp only [z]
    refine ⟨(Array.getElem?_eq_some_iff.mp z).1, fun u H' hy => ?_⟩
    obtain ⟨e1, c', e2, e3⟩ := hy
    subst e1; subst e3
    rw [z] at e2; cases e2
    exact ⟨.refl, r, .str _⟩⟩
end

/-! ### a dict that is walked is locked -/
def eLk (sel : Loc → Sto → Option Nat) (m : ME) : ME := fun l S => match sel l S with
  | some n => match S[n]? with
    | some (.dK kvs) => (noErr (m l (S.set n (.lk kvs)))).bind fun d S1 => match S1[n]? with
      | some (.lk _) => .ok d (S1.set n (.dK kvs))
      | _ => .bad
    | some (.dN kvs) => (noErr (m l (S.set n (.lkN kvs)))).bind fun d S1 => match S1[n]? with
      | some (.lkN _) => .ok d (S1.set n (.dN kvs))
      | _ => .bad
    | some (.raw ks) => (noErr (m l (S.set n (.lkR ks)))).bind fun d S1 => match S1[n]? with
      | some (.lkR _) => .ok d (S1.set n (.raw ks))
      | _ => .bad
    | _ => .bad
  | _ => .bad
def iKeysL (a : ME) : MI := fun l S => (a l S).bind fun d S1 => match d with
  | .ref n => match S1[n]? with
    | some (.lk _) => .ok (fun i S => match S[n]? with
      | some (.lk kvs) => some (kvs[i]?.map fun kv => dOf kv.1)
      | _ => none) S1
    | _ => .bad
  | _ => .bad
def iItemsL (a : ME) : MI := fun l S => (a l S).bind fun d S1 => match d with
  | .ref n => match S1[n]? with
    | some (.lk _) => .ok (fun i S => match S[n]? with
      | some (.lk kvs) => some (kvs[i]?.map fun kv => .tup [dOf kv.1, kv.2])
      | _ => none) S1
    | _ => .bad
  | _ => .bad
section
variable {P : Program} {w : World} {K : PySem.W.Frag} {R R' : List Addr} {S S' : Sto} {H H' : Hp}
/-- one object written anew, all others stay: the whole step is told by its ends -/
theorem Rel.put (r : Rel P w K R S H) {n : Nat} {p : Addr} {u : HO} {o : OB} (hn : R[n]? = Option.some p) (hT : ∀ a vs, SqT K H a vs → SqT K (upd H p u) a vs) (new : ObR P w K R (upd H p u) p o) : Rel P w K R (S.set n o) (upd H p u) := by
  have hl := (List.getElem?_eq_some_iff.mp hn).1
  refine ⟨by rw [List.length_set]; exact r.len, r.nd, r.tabs hn, fun m a o' e1 e2 => ?_⟩
  by_cases hm : m = n
  · subst hm
    rw [hn] at e1; cases e1
    rw [List.getElem?_set_self (by rw [← r.len]; exact hl)] at e2
    cases e2
    exact new
  · rw [List.getElem?_set_ne (fun z => hm z.symm)] at e2
    refine (r.ob m a o' e1 e2).mono (fun _ _ z => z) hT (upd_ne fun z => hm ?_)
    subst z
    obtain ⟨l1, q1⟩ := List.getElem?_eq_some_iff.mp e1
    obtain ⟨l2, q2⟩ := List.getElem?_eq_some_iff.mp hn
    exact (List.getElem_inj r.nd).mp (q1.trans q2.symm)
theorem sq_upd {p : Addr} {u : HO} (h : ∃ v, H p = Option.some v ∧ tupish v = false) : ∀ a vs, SqT K H a vs → SqT K (upd H p u) a vs := fun a vs q => by
  obtain ⟨v, hv, t⟩ := h
  rcases q with q | q
  · refine .inl ?_
    have ne : a ≠ p := fun z => by
      rcases q with q | ⟨o, q⟩ <;> (rw [z, hv] at q; cases q; cases t)
    rcases q with q | ⟨o, q⟩
    · exact .inl (by rw [upd_ne ne]; exact q)
    · exact .inr ⟨o, by rw [upd_ne ne]; exact q⟩
  · exact .inr q
end
section
variable {X : Cx} {tg e : Expr} {me : ME} {apos cpos : Pos}
/-- a pinned thing is locked as it stands -/
def tLockN (t : TE) : TE := fun σ H Q => ∃ d o, H d = some (pinO d o) ∧ t σ (upd H d (.frz o (pinO d o))) fun v H' => H' d = some (.frz o (pinO d o)) ∧ Q v (upd H' d (pinO d o))
theorem pe_lockN {t : TE} (h : PE X e t) : PE X e (tLockN t) := by
  refine ⟨fun pins s σ H Q I hw => ?_⟩
  obtain ⟨d, o, hd, hw⟩ := hw
  have mu : Mut (some (pinO d o)) := trivial
  obtain ⟨od, I1⟩ := I.lock hd mu
  have e1 : s.heap.get? d = some od := (I1.hok d _ upd_same).1
  have e2 : s.heap.get? d = some o := (I.hok d _ hd).1
  rw [e1] at e2
  cases e2
  refine thn (h.run pins s σ _ _ I1 hw) fun v s1 ⟨x, H1, I2, r, k, q⟩ => ?_
  exact ⟨x, _, I2.unlock k (I.nofrz hd mu), r, q⟩
/-- the whole of it, for a thing u that is locked (o1 stands for it while it is) -/
theorem lk_run {R : List Addr} {S : Sto} {l : Loc} {σ : L2.St} {H : Hp} {Q : VK} {W : WX} {n : Nat} {a : Addr} {o o1 : OB} {u : HO} {ok1 : OB → Bool} {od : Obj} (r : RelX X R S H) (hl : LocR X.K R H l σ) (ha : R[n]? = some a) (h1 : H a = some u) (hf : isFrz u = false) (ht : tupish u = false)
    (lock : (∀ b vs, SqT X.K H b vs → SqT X.K (upd H a (.frz od u)) b vs) → ObR X.prog X.w X.K R (upd H a (.frz od u)) a o1)
    (back : ∀ R2 H2, (∀ (n : Nat) (b : Addr), R[n]? = some b → R2[n]? = some b) → (∀ b vs, SqT X.K H b vs → SqT X.K (upd H2 a u) b vs) → ObR X.prog X.w X.K R2 (upd H2 a u) a o)
    (h : Out X ((noErr (me l (S.set n o1))).bind fun d S1 => match S1[n]? with
      | some o' => if ok1 o' = true then .ok d (S1.set n o) else .bad
      | none => .bad) R H (fun c d H' => W c d σ H') fun d _ R' H' => ∀ v, DV X.K R' H' d v → Q v H') : liftE X me W σ (upd H a (.frz od u)) fun v H' => H' a = some (.frz od u) ∧ Q v (upd H' a u) := by
  have ta : ∃ v, H a = some v ∧ tupish v = false := ⟨_, h1, ht⟩
  have r1 : RelX X R (S.set n o1) (upd H a (.frz od u)) := r.put ha (sq_upd ta) (lock (sq_upd ta))
  have hl1 : LocR X.K R (upd H a (.frz od u)) l σ := ⟨hl.1, fun i d q => let ⟨v, e1, e2⟩ := hl.2 i d q; ⟨v, e1, e2.mono (fun _ _ z => z) (sq_upd ta)⟩⟩
  refine ⟨R, _, l, r1, hl1, ?_⟩
  cases z2 : me l (S.set n o1) with
  | bad => rw [z2] at h; exact False.elim h
  | err _ _ _ => rw [z2] at h; exact False.elim h
  | ok d S1 =>
    rw [z2] at h
    have h : Out X (match S1[n]? with
      | some o' => if ok1 o' = true then .ok d (S1.set n o) else .bad
      | none => .bad) R H (fun c d H' => W c d σ H') (fun d _ R' H' => ∀ v, DV X.K R' H' d v → Q v H') := h
    cases z3 : S1[n]? with
    | none => simp only [z3] at h; exact False.elim h
    | some o' =>
      simp only [z3] at h
      by_cases z4 : ok1 o' = true
      · rw [if_pos z4] at h
        intro R2 H2 x2 r2 v hv
        have hfz : H2 a = some (.frz od u) := x2.frz a od _ upd_same
        refine ⟨hfz, ?_⟩
        have t2 : ∃ v, H2 a = some v ∧ tupish v = false := by
          obtain ⟨v, e, t⟩ := r2.isAt (List.mem_of_getElem? (x2.get ha))
          exact ⟨v, e, t⟩
        have aR : a ∈ R := List.mem_of_getElem? ha
        have x3 : Ext R H R2 (upd H2 a u) := by
          obtain ⟨⟨N, e1, e2⟩, k, f⟩ := x2
          refine ⟨⟨N, e1, fun b hb o z => ?_⟩, fun b o q hb nt => ?_, fun b o u' q => ?_⟩
          · have ne : b ≠ a := fun z => by
              obtain ⟨ps, q⟩ := e2 b hb _ (by rw [z]; exact upd_same)
              cases q
            exact e2 b hb o (by rw [upd_ne ne]; exact z)
          · have ne : b ≠ a := fun z => hb (by rw [z]; exact aR)
            rw [upd_ne ne]
            exact k b o (by rw [upd_ne ne]; exact q) hb nt
          · have ne : b ≠ a := fun z => by rw [z, h1] at q; cases q; cases hf
            rw [upd_ne ne]
            exact f b o u' (by rw [upd_ne ne]; exact q)
        have r3 : RelX X R2 (S1.set n o) (upd H2 a u) := r2.put (x2.get ha) (sq_upd t2) (back R2 H2 (fun _ _ z => x2.get z) fun b vs q => sq_upd t2 b vs (r1.sq x2 (sq_upd ta b vs q)))
        exact h R2 _ x3 r3 v (hv.mono (fun _ _ z => z) (sq_upd t2))
      · rw [if_neg z4] at h; exact False.elim h
def isLk : OB → Bool
  | .lk _ => true
  | _ => false
def isLkN : OB → Bool
  | .lkN _ => true
  | _ => false
def isLkR : OB → Bool
  | .lkR _ => true
  | _ => false
theorem se_lk {sel : Loc → Sto → Option Nat} (he : SE X e me) : SE X e (eLk sel me) := ⟨fun W tk => by
  refine ⟨fun pins s σ H Q I ⟨R, S, l, r, hl, h⟩ => ?_⟩
  unfold eLk at h
  cases z : sel l S with
  | none => simp only [z] at h; exact False.elim h
  | some n =>
    simp only [z] at h
    cases z1 : S[n]? with
    | none => simp only [z1] at h; exact False.elim h
    | some o =>
      simp only [z1] at h
      cases o <;> first | exact False.elim h | skip
      · rename_i kvs
        simp only at h
        obtain ⟨a, ha, kvs', h1, h2⟩ := r.at z1
        refine (pe_lock (he.run W tk)).run pins s σ H Q I ⟨a, _, h1, trivial, fun od => lk_run (ok1 := isLk) (o := .dK kvs) (o1 := .lk kvs) (n := n) r hl ha h1 rfl rfl (fun hT => ⟨od, kvs', upd_same, h2.mono (fun _ _ z => z) hT⟩) (fun R2 H2 hR hT => ⟨kvs', upd_same, h2.mono hR hT⟩) ?_⟩
        have e : (fun (d : D) (S1 : Sto) => match S1[n]? with
          | some (.lk _) => Res.ok d (S1.set n (.dK kvs))
          | _ => .bad) = fun d S1 => match S1[n]? with
          | some o' => if isLk o' = true then .ok d (S1.set n (.dK kvs)) else .bad
          | none => .bad := by
          funext d S1
          cases S1[n]? with
          | none => rfl
          | some o' => cases o' <;> rfl
        rw [← e]
        exact h
      · rename_i kvs
        simp only at h
        obtain ⟨a, ha, o, es, ep, xs, h1, c1, c2, c3, c4, c5, h2⟩ := r.at z1
        refine (pe_lockN (he.run W tk)).run pins s σ H Q I ⟨a, o, h1, lk_run (ok1 := isLkN) (o := .dN kvs) (o1 := .lkN kvs) (n := n) r hl ha h1 rfl rfl (fun hT => ⟨o, es, ep, xs, upd_same, c1, c2, c3, c4, c5, Paired.imp (fun p x ⟨q1, q0, q2, v, q3, q4⟩ => ⟨q1, q0, q2.mono (fun _ _ z => z) hT, v, q3.mono (fun _ _ z => z) hT, q4⟩) h2⟩) (fun R2 H2 hR hT => ⟨o, es, ep, xs, upd_same, c1, c2, c3, c4, c5, Paired.imp (fun p x ⟨q1, q0, q2, v, q3, q4⟩ => ⟨q1, q0, q2.mono hR hT, v, q3.mono hR hT, q4⟩) h2⟩) ?_⟩
        have e : (fun (d : D) (S1 : Sto) => match S1[n]? with
          | some (.lkN _) => Res.ok d (S1.set n (.dN kvs))
          | _ => .bad) = fun d S1 => match S1[n]? with
          | some o' => if isLkN o' = true then .ok d (S1.set n (.dN kvs)) else .bad
          | none => .bad := by
          funext d S1
          cases S1[n]? with
          | none => rfl
          | some o' => cases o' <;> rfl
        rw [← e]
        exact h
      · rename_i ks
        simp only at h
        obtain ⟨a, ha, o, es, ep, vs, h1, c1, c2, c3, c4, h2⟩ := r.at z1
        refine (pe_lockN (he.run W tk)).run pins s σ H Q I ⟨a, o, h1, lk_run (ok1 := isLkR) (o := .raw ks) (o1 := .lkR ks) (n := n) r hl ha h1 rfl rfl (fun hT => ⟨o, es, ep, vs, upd_same, c1, c2, c3, c4, h2.mono (fun _ _ z => z) hT⟩) (fun R2 H2 hR hT => ⟨o, es, ep, vs, upd_same, c1, c2, c3, c4, h2.mono hR hT⟩) ?_⟩
        have e : (fun (d : D) (S1 : Sto) => match S1[n]? with
          | some (.lkR _) => Res.ok d (S1.set n (.raw ks))
          | _ => .bad) = fun d S1 => match S1[n]? with
          | some o' => if isLkR o' = true then .ok d (S1.set n (.raw ks)) else .bad
          | none => .bad := by
          funext d S1
          cases S1[n]? with
          | none => rfl
          | some o' => cases o' <;> rfl
        rw [← e]
        exact h⟩
theorem si_keysL (he : SE X e me) : SI X tg e (iKeysL me) := ⟨fun W tk => by
  refine PI.mono (pi_keys (he.run W tk)) fun σ H Rk ⟨R, S, l, r, hl, h⟩ => ?_
  refine ⟨R, S, l, r, hl, (Out.bind h).imp fun d S1 R1 H1 x1 r1 q v hv => ?_⟩
  cases d <;> first | exact False.elim q | skip
  rename_i n
  obtain ⟨a, rfl, hn⟩ := hv.refv
  dsimp only at q
  cases q1 : S1[n]? with
  | none => simp only [q1] at q; exact False.elim q
  | some o =>
    simp only [q1] at q
    cases o <;> first | exact False.elim q | skip
    obtain ⟨o, kvs', h1, h2⟩ := r1.ob n a _ hn q1
    refine ⟨a, o, rfl, .inl ⟨kvs', h1, Out.pure q r1 (Itk a o kvs') fun i R S H x r => ?_⟩⟩
    have hh := x.frz a o _ h1
    cases z : S[n]? with
    | none => simp only [z]
    | some ob =>
      cases ob <;> first | (simp only [z]; done) | skip
      rename_i kvs
      obtain ⟨o2, kvs2, g1, g2⟩ := r.ob n a _ (x.get hn) z
      rw [hh] at g1
      cases g1
      simp only [z]
      cases z2 : kvs[i]? with
      | none => exact ⟨hh, by rw [← g2.length]; exact List.getElem?_eq_none_iff.mp z2⟩
      | some kv =>
        have hi : i < kvs'.length := by rw [← g2.length]; exact (List.getElem?_eq_some_iff.mp z2).1
        refine ⟨⟨hh, hi⟩, fun u H' hy => ?_⟩
        obtain ⟨e1, k, v, e2, e3⟩ := hy
        subst e1; subst e3
        obtain ⟨p, hp, e4, e5⟩ := paired_get g2 z2
        rw [e2] at hp
        cases hp
        refine ⟨.refl, r, ?_⟩
        show DV X.K R H' (dOf kv.1) (kV k)
        have e6 : kv.1 = k := e4
        rw [e6]
        exact dv_key k⟩
theorem si_itemsL {elts : List Expr} {kk : Nat} {tpos : Pos} (he : SE X e me) (hbase : attributeBase e "items" X.env (eval e X.env) = eval e X.env := by rfl) (hline : (apos.endLine == cpos.line) = true := by rfl) : SI X (.Tuple elts kk tpos) (.Call (.Attribute e "items" apos) [] [] cpos) (iItemsL me) := ⟨fun W tk => by
  refine PI.mono (pi_items (he.run W tk) hbase hline) fun σ H Rk ⟨R, S, l, r, hl, h⟩ => ?_
  refine ⟨R, S, l, r, hl, (Out.bind h).imp fun d S1 R1 H1 x1 r1 q v hv => ?_⟩
  cases d <;> first | exact False.elim q | skip
  rename_i n
  obtain ⟨a, rfl, hn⟩ := hv.refv
  dsimp only at q
  cases q1 : S1[n]? with
  | none => simp only [q1] at q; exact False.elim q
  | some o =>
    simp only [q1] at q
    cases o <;> first | exact False.elim q | skip
    obtain ⟨o, kvs', h1, h2⟩ := r1.ob n a _ hn q1
    refine ⟨a, o, kvs', rfl, h1, Out.pure q r1 (Iti a o kvs') fun i R S H x r => ?_⟩
    have hh := x.frz a o _ h1
    cases z : S[n]? with
    | none => simp only [z]
    | some ob =>
      cases ob <;> first | (simp only [z]; done) | skip
      rename_i kvs
      obtain ⟨o2, kvs2, g1, g2⟩ := r.ob n a _ (x.get hn) z
      rw [hh] at g1
      cases g1
      simp only [z]
      cases z2 : kvs[i]? with
      | none => exact ⟨hh, by rw [← g2.length]; exact List.getElem?_eq_none_iff.mp z2⟩
      | some kv =>
        have hi : i < kvs'.length := by rw [← g2.length]; exact (List.getElem?_eq_some_iff.mp z2).1
        refine ⟨⟨hh, hi⟩, fun u H' hy => ?_⟩
        obtain ⟨T, k, v, e2, e3, e4, e5⟩ := hy
        subst e3; subst e5
        obtain ⟨p, hp, e6, e7⟩ := paired_get g2 z2
        rw [e2] at hp
        cases hp
        refine ⟨.fresh e4, r.fresh e4, .tup (.of upd_same) (.cons ?_ (.cons (e7.ext r (.fresh e4)) .nil))⟩
        have e8 : kv.1 = k := e6
        rw [e8]
        exact dv_key k⟩
end
end SL
set_option Elab.async false
set_option linter.all false
set_option maxRecDepth 100000
namespace SL
open PySem PySem.Spec PyProof.Rows L2

/-! ### a list of anything against an empty one -/
section
variable {X : Cx}
theorem emp_lists {R : List Addr} {S : Sto} {H : Hp} {n m : Nat} {x y : V} {ds : List D} (r : RelX X R S H) (hx : DV X.K R H (.ref n) x) (hy : DV X.K R H (.ref m) y) (e1 : S[n]? = some (.lst ds)) (e2 : S[m]? = some (.lst [])) :
    ∃ a b vs, x = .ref a ∧ y = .ref b ∧ H a = some (.lst vs) ∧ H b = some (.lst []) ∧ vs.isEmpty = ds.isEmpty := by
  obtain ⟨a, rfl, ha⟩ := hx.refv
  obtain ⟨b, rfl, hb⟩ := hy.refv
  obtain ⟨vs, h1, h2⟩ := r.ob n a _ ha e1
  obtain ⟨us, h3, h4⟩ := r.ob m b _ hb e2
  cases h4
  refine ⟨a, b, vs, rfl, rfl, h1, h3, ?_⟩
  cases h2 <;> rfl
theorem emp_run {neg : Bool} {x y : V} {H : Hp} {Q : VK} (h : liftO2 X (oEmp neg) x y H Q) : ∃ a b vs, x = .ref a ∧ y = .ref b ∧ H a = some (.lst vs) ∧ H b = some (.lst []) ∧ Q (.bl (if neg then !vs.isEmpty else vs.isEmpty)) H := by
  obtain ⟨R, S, d, e, r, hd, he, q⟩ := h
  cases d <;> cases e <;> first | exact False.elim q | skip
  rename_i n m
  unfold oEmp at q
  cases q1 : S[n]? with
  | none => simp only [q1] at q; exact False.elim q
  | some o =>
    cases q2 : S[m]? with
    | none => simp only [q1, q2] at q; cases o <;> exact False.elim q
    | some u =>
      simp only [q1, q2] at q
      cases o <;> first | exact False.elim q | skip
      cases u <;> first | exact False.elim q | skip
      rename_i ds es
      cases es with
      | cons _ _ => exact False.elim q
      | nil =>
        obtain ⟨a, b, vs, rfl, rfl, h1, h2, h3⟩ := emp_lists r hd he q1 q2
        refine ⟨a, b, vs, rfl, rfl, h1, h2, ?_⟩
        rw [h3]
        exact OutO.pure q r _ (.bl _)
theorem s_emp (hu : X.A.units < cLine) : OpR X (compareOp .Eq) (liftO2 X (oEmp false)) := fun pins s σ H x y v u Q I rx ry h => by
  obtain ⟨a, b, vs, rfl, rfl, h1, h2, q⟩ := emp_run h
  cases rx; cases ry
  obtain ⟨its, rv, hl, _⟩ := I.list (.of h1)
  obtain ⟨its2, rv2, hl2, _⟩ := I.list (.of h2)
  cases rv2
  cases rv with
  | nil => exact SeqAt.eq_listAt (e := fun _ => true) hl.isList hl2.isList rfl hu (fun j h1 _ => absurd h1 (by simp)) ⟨.bl true, H, I, rfl, q⟩
  | cons a b => exact SeqAt.eq_list_lengthsAt hl.isList hl2.isList (by simp) hu ⟨.bl false, H, I, rfl, q⟩
theorem s_nemp (hu : X.A.units < cLine) : OpR X (compareOp .NotEq) (liftO2 X (oEmp true)) := fun pins s σ H x y v u Q I rx ry h => by
  obtain ⟨a, b, vs, rfl, rfl, h1, h2, q⟩ := emp_run h
  cases rx; cases ry
  obtain ⟨its, rv, hl, _⟩ := I.list (.of h1)
  obtain ⟨its2, rv2, hl2, _⟩ := I.list (.of h2)
  cases rv2
  cases rv with
  | nil => exact SeqAt.RcNeAt.lists (e := fun _ => true) hl.isList hl2.isList rfl hu (fun j h1 _ => absurd h1 (by simp)) X.prog X.w _ _ ⟨.bl false, H, I, rfl, q⟩
  | cons a b => exact SeqAt.RcNeAt.lists_lengths hl.isList hl2.isList (by simp) hu X.prog X.w _ _ ⟨.bl true, H, I, rfl, q⟩
end

/-! ### plain data with lists -/
mutual
def dpy (S : Sto) : D → Option PyData
  | .non => some .none
  | .bl b => some (.bool b)
  | .int i => some (.int i)
  | .str x => some (.str x)
  | .tup ds => (dpys S ds).map .tuple
  | .ref n => match S[n]? with
    | some (.lst ds) => (D.pys ds).map .list
    | _ => none
  | _ => none
def dpys (S : Sto) : List D → Option (List PyData)
  | [] => some []
  | d :: ds => match dpy S d, dpys S ds with
    | some k, some ks => some (k :: ks)
    | _, _ => none
end
def oEqS (neg : Bool) : Op2 := fun d e S => match dpy S d, dpy S e with
  | some x, some y => if SeqAt.shaped x && SeqAt.shaped y then some (.bl (if neg then !PyData.eqv x y else PyData.eqv x y), S) else none
  | _, _ => none
section
variable {X : Cx}
mutual
theorem DV.dpS {R : List Addr} {S : Sto} {H : Hp} (r : RelX X R S H) : ∀ {d : D} {v : V} {k : PyData}, DV X.K R H d v → dpy S d = some k → Dp X.K H v k
  | .non, _, _, h, e => by cases h; cases e; exact .non
  | .bl b, _, _, h, e => by cases h; cases e; exact .bl b
  | .int b, _, _, h, e => by cases h; cases e; exact .int b
  | .str b, _, _, h, e => by cases h; cases e; exact .str b
  | .tup ds, _, _, h, e => by
    cases h with
    | tup s t =>
      have e' : (dpys S ds).map PyData.tuple = some _ := e
      cases q : dpys S ds with
      | none => rw [q] at e'; cases e'
      | some ks => rw [q] at e'; cases e'; exact .tup s (DVs.dpS r t q)
  | .ty _, _, _, _, e => by cases e
  | .gl _, _, _, _, e => by cases e
  | .ref n, v, k, h, e => by
    obtain ⟨a, rfl, ha⟩ := h.refv
    have e' : (match S[n]? with
      | some (.lst ds) => (D.pys ds).map .list
      | _ => none) = some k := e
    cases q : S[n]? with
    | none => simp only [q] at e'; cases e'
    | some o =>
      simp only [q] at e'
      cases o <;> first | cases e' | skip
      rename_i ds
      obtain ⟨vs, h1, h2⟩ := r.ob n a _ ha q
      cases q2 : D.pys ds with
      | none => simp only [q2] at e'; cases e'
      | some ks => simp only [q2] at e'; cases e'; exact .lst (.of h1) (h2.dp q2)
theorem DVs.dpS {R : List Addr} {S : Sto} {H : Hp} (r : RelX X R S H) : ∀ {ds : List D} {vs : List V} {ks : List PyData}, DVs X.K R H ds vs → dpys S ds = some ks → DpAll X.K H vs ks
  | [], _, _, h, e => by cases h; cases e; exact .nil
  | d :: ds, _, _, h, e => by
    cases h with
    | cons a t =>
      have e' : (match dpy S d, dpys S ds with
        | some k, some ks => some (k :: ks)
        | _, _ => none) = some _ := e
      cases q1 : dpy S d with
      | none => rw [q1] at e'; cases e'
      | some k =>
        cases q2 : dpys S ds with
        | none => rw [q1, q2] at e'; cases e'
        | some ks => rw [q1, q2] at e'; cases e'; exact .cons (DV.dpS r a q1) (DVs.dpS r t q2)
end
theorem eqS_run {neg : Bool} {x y : V} {H : Hp} {Q : VK} (h : liftO2 X (oEqS neg) x y H Q) : ∃ d e, Dp X.K H x d ∧ Dp X.K H y e ∧ SeqAt.shaped d = true ∧ SeqAt.shaped e = true ∧ Q (.bl (if neg then !PyData.eqv d e else PyData.eqv d e)) H := by
  obtain ⟨R, S, d, e, r, hd, he, q⟩ := h
  unfold oEqS at q
  cases q1 : dpy S d with
  | none => rw [q1] at q; exact False.elim q
  | some a =>
    cases q2 : dpy S e with
    | none => rw [q1, q2] at q; exact False.elim q
    | some b =>
      rw [q1, q2] at q
      by_cases z : (SeqAt.shaped a && SeqAt.shaped b) = true
      · simp only [z, if_true] at q
        obtain ⟨z1, z2⟩ := Bool.and_eq_true_iff.mp z
        exact ⟨a, b, hd.dpS r q1, he.dpS r q2, z1, z2, OutO.pure q r _ (.bl _)⟩
      · simp only [z] at q; exact False.elim q
theorem s_eqS (hu : X.A.units + 64 < cLine) : OpR X (compareOp .Eq) (liftO2 X (oEqS false)) := OpR.mono (op_eqD hu) fun _ _ _ _ h => eqS_run h
theorem s_neS (hu : X.A.units + 64 < cLine) : OpR X (compareOp .NotEq) (liftO2 X (oEqS true)) := OpR.mono (op_neD hu) fun _ _ _ _ h => eqS_run h
end

/-! ### sorted -/
def leS (x y : Str) : Bool := !ltCps y.cps.toList x.cps.toList
def insS (x : Str) : List Str → List Str
  | [] => [x]
  | y :: r => if leS x y then x :: y :: r else y :: insS x r
def sortS : List Str → List Str
  | [] => []
  | x :: r => insS x (sortS r)
def strsOf : List D → Option (List Str)
  | [] => some []
  | .str x :: ds => (strsOf ds).map (x :: ·)
  | _ => none
/-- one item, that reads as data that can be sorted -/
def sortShape : PyData → Bool
  | .tuple (_ :: _) => true
  | .int _ => true
  | .str _ => true
  | _ => false
def sortable1 (d : D) : Bool := match d.py with
  | some k => sortShape k && PySem.W.alike k k && decide (k.depth ≤ 64)
  | none => false
def oSorted : OpN := fun ds S => match ds with
  | [.ref n] => match S[n]? with
    | some (.lst []) => some (.ref S.length, S ++ [.lst []])
    | some (.lst [d]) => if sortable1 d then some (.ref S.length, S ++ [.lst [d]]) else none
    | some (.lst ds) => match strsOf ds with
      | some xs => if xs.length < 64 then some (.ref S.length, S ++ [.lst ((sortS xs).map .str)]) else none
      | none => none
    | _ => none
  | _ => none
/-! the sorted list is one -/
theorem leS_iff {x y : Str} : leS x y = true ↔ x.cps.toList ≤ y.cps.toList := by
  unfold leS
  rw [PyProof.Rows.ltCps_eq]
  simp
theorem leS_total {x y : Str} (h : leS x y = false) : leS y x = true := by
  rw [leS_iff]
  have q : ¬ (x.cps.toList ≤ y.cps.toList) := fun z => by rw [leS_iff.mpr z] at h; cases h
  exact List.le_of_lt (List.not_le.mp q)
theorem leS_trans {x y z : Str} (h : leS x y = true) (h' : leS y z = true) : leS x z = true := leS_iff.mpr (List.le_trans (leS_iff.mp h) (leS_iff.mp h'))
theorem leS_antisymm {x y : Str} (h : leS x y = true) (h' : leS y x = true) : x = y := by
  have e := List.le_antisymm (leS_iff.mp h) (leS_iff.mp h')
  cases x with
  | mk a =>
    cases y with
    | mk b =>
      have e' : a.toList = b.toList := e
      rw [Array.toList_inj] at e'
      rw [e']
theorem insS_perm (x : Str) : ∀ l : List Str, (insS x l).Perm (x :: l)
  | [] => .refl _
  | y :: r => by
    unfold insS
    split
    · exact .refl _
    · exact ((insS_perm x r).cons y).trans (.swap _ _ _)
theorem sortS_perm : ∀ l : List Str, (sortS l).Perm l
  | [] => .refl _
  | x :: r => (insS_perm x _).trans ((sortS_perm r).cons x)
theorem insS_pw (x : Str) : ∀ {l : List Str}, l.Pairwise (fun a b => leS a b = true) → (insS x l).Pairwise (fun a b => leS a b = true)
  | [], _ => by unfold insS; exact .cons (fun _ h => absurd h (by simp)) .nil
  | y :: r, h => by
    unfold insS
    rw [List.pairwise_cons] at h
    by_cases z : leS x y = true
    · rw [if_pos z]
      refine .cons (fun b hb => ?_) (List.pairwise_cons.mpr h)
      rcases List.mem_cons.mp hb with e | e
      · rw [e]; exact z
      · exact leS_trans z (h.1 b e)
    · rw [if_neg z]
      refine .cons (fun b hb => ?_) (insS_pw x h.2)
      rcases List.mem_cons.mp ((insS_perm x r).mem_iff.mp hb) with e | e
      · rw [e]; exact leS_total (Bool.eq_false_iff.mpr z)
      · exact h.1 b e
theorem sortS_pw : ∀ l : List Str, (sortS l).Pairwise (fun a b => leS a b = true)
  | [] => .nil
  | x :: r => insS_pw x (sortS_pw r)
theorem risingS_pw : ∀ (p : Str) (l : List Str), risingS p l = true → (p :: l).Pairwise (fun a b => leS a b = true)
  | p, [], _ => .cons (fun _ h => absurd h (by simp)) .nil
  | p, x :: r, h => by
    have h' : (!ltCps x.cps.toList p.cps.toList && risingS x r) = true := h
    rw [Bool.and_eq_true] at h'
    have ih := risingS_pw x r h'.2
    refine .cons (fun b hb => ?_) ih
    rcases List.mem_cons.mp hb with e | e
    · rw [e]; exact h'.1
    · exact leS_trans (y := x) h'.1 ((List.pairwise_cons.mp ih).1 b e)
theorem sortS_uniq {xs ys : List Str} (p : ys.Perm xs) (h : sortedS ys = true) : ys = sortS xs := by
  have pw : ys.Pairwise (fun a b => leS a b = true) := by
    cases ys with
    | nil => exact .nil
    | cons y r => exact risingS_pw y r h
  exact List.Perm.eq_of_pairwise (fun a b _ _ h1 h2 => leS_antisymm h1 h2) pw (sortS_pw xs) (p.trans (sortS_perm xs).symm)
section
variable {X : Cx}
theorem DVs.strs {K : PySem.W.Frag} {R : List Addr} {H : Hp} : ∀ {ds : List D} {vs : List V} {bs : List Str}, DVs K R H ds vs → strsOf ds = some bs → vs = bs.map V.str
  | _, _, _, .nil, e => by cases e; rfl
  | _, _, _, .cons a t, e => by
    cases a <;> first | cases e | skip
    rename_i ds vs b
    have e' : (strsOf ds).map (b :: ·) = some _ := e
    cases q : strsOf ds with
    | none => rw [q] at e'; cases e'
    | some bs => rw [q] at e'; cases e'; rw [DVs.strs t q]; rfl
theorem DVs.ofStrs {K : PySem.W.Frag} {R : List Addr} {H : Hp} : ∀ xs : List Str, DVs K R H (xs.map .str) (xs.map V.str)
  | [] => .nil
  | x :: xs => .cons (.str x) (DVs.ofStrs xs)
theorem one_sorted (hu : X.A.units + 66 < cLine) {pins : List (Addr × Obj)} {σ : L2.St} {H : Hp} {s : Shared} {a : Addr} {vs : List V} {k : Option PyData} {Q : VK} (I : Inv X pins σ H s) (h1 : H a = some (.lst vs)) (hl1 : vs.length ≤ 1) (hk : ∀ v ∈ vs, ∃ d, k = some d ∧ Dp X.K H v d ∧ d.depth ≤ 64 ∧ PySem.W.alike d d = true ∧ sortShape d = true)
    (q : ∀ p, H p = none → Q (.ref p) (upd H p (.lst vs))) : wpAny (model X.prog X.w) X.A (call (.builtin "sorted") [.ref a]) (EP X pins σ Q) X.xe s := by
  obtain ⟨its, rv, hl, _⟩ := I.list (.of h1)
  have hlen := rv.length
  have fin : ∀ out : List Value, out = its → ∃ x H', Inv X pins σ H' { s with heap := sortedAll s.heap its (List.toArray out) } ∧ RelV x (.ref (s.heap.objs.size + 1)) ∧ Q x H' := fun out e => by
    subst e
    obtain ⟨ep, he'⟩ := PyProof.Rows.sortedAll_at s.heap out out.toArray
    exact ⟨.ref _, upd H (s.heap.objs.size + 1) (.lst vs), I.laid (t' := s.toks) (fun _ _ => PyProof.Rows.sortedAll_old) (Nat.le_succ _) ⟨by rw [sizeLine_eq]; omega, out, ep, rv, he'⟩, rfl, q _ (I.hok.fresh (Nat.le_succ _))⟩
  cases rv with
  | nil =>
    refine PySem.W.sorted_data (β := PyData) (bs := []) (enc := id) (R := fun _ _ => True) hl.isList .nil .nil (fun _ h => absurd h (by simp)) (.inr fun _ h => absurd h (by simp)) (Nat.zero_le _) (fun _ h => absurd h (by simp)) fun out h2 h3 => ?_
    exact fin out (List.eq_nil_of_length_eq_zero h2)
  | @cons v u vs its r t =>
    cases t with
    | cons _ _ => simp at hl1
    | nil =>
      obtain ⟨d, rfl, dp, dd, al, sh⟩ := hk v (by simp)
      obtain ⟨as, rd⟩ := Dp.reads I d v u dp r
      refine PySem.W.sorted_data (β := PyData) (bs := [d]) (enc := id) (R := fun x _ => x = u) hl.isList (.cons rfl .nil) (.cons ⟨as, rd⟩ .nil) (fun x h y h' => ?_) ?_ (by rw [sizeLine_eq]; simp) (fun b hb => ?_) fun out h2 h3 => ?_
      · simp only [List.map_cons, List.map_nil, List.mem_singleton, id] at h h'
        subst h; subst h'
        exact al
      · cases d <;> first | cases sh | skip
        · exact .inr fun z hz => by
            simp only [List.map_cons, List.map_nil, List.mem_singleton, id] at hz
            subst hz
            exact ⟨(fun e => nomatch e), (fun _ e => nomatch e)⟩
        · exact .inr fun z hz => by
            simp only [List.map_cons, List.map_nil, List.mem_singleton, id] at hz
            subst hz
            exact ⟨(fun e => nomatch e), (fun _ e => nomatch e)⟩
        · rename_i xs
          cases xs with
          | nil => cases sh
          | cons x r => exact .inl fun z hz => by simp only [List.map_cons, List.map_nil, List.mem_singleton, id] at hz; exact ⟨x, r, hz⟩
      · rw [List.mem_singleton.mp hb]
        show X.A.units + 2 + d.depth < cLine
        omega
      · refine fin out ?_
        have e3 : ([d].mergeSort (PySem.W.dataLe false id)) = [d] := by simp
        rw [e3] at h3
        cases h3 with
        | cons a b => cases b; rw [a]
theorem s_sorted (hu : X.A.units + 66 < cLine) : CallR X (.builtin "sorted") (liftON X oSorted) := by
  intro pins s σ H xs us Q I rr h
  obtain ⟨R, S, ds, r, hd, q⟩ := h
  cases ds with
  | nil => exact False.elim q
  | cons d t =>
    cases t with
    | cons _ _ => cases d <;> exact False.elim q
    | nil =>
      obtain ⟨v, rfl, hv⟩ := hd.one
      cases d <;> first | exact False.elim q | skip
      rename_i n
      obtain ⟨a, rfl, hn⟩ := hv.refv
      obtain ⟨u, rfl, ru⟩ := vals1 rr
      obtain rfl : u = Value.ref a := ru
      unfold oSorted at q
      cases q1 : S[n]? with
      | none => simp only [q1] at q; exact False.elim q
      | some o =>
        simp only [q1] at q
        cases o <;> first | exact False.elim q | skip
        rename_i ds
        obtain ⟨vs, h1, h2⟩ := r.ob n a _ hn q1
        -- a new list with the same items
        have fin : ∀ (es : List D) (ws : List V), DVs X.K R H es ws → (OutO X (some (.ref S.length, S ++ [.lst es])) R H fun d' _ R' H' => ∀ v, DV X.K R' H' d' v → Q v H') → ∀ p, H p = none → Q (.ref p) (upd H p (.lst ws)) := fun es ws hw q9 p hp =>
          q9 _ _ (Ext.push hp) (r.push hp ⟨_, upd_same, hw.ext r (Ext.push hp)⟩) _ (.ref (get_last r))
        match ds, q1, q, h2 with
        | [], _, q, h2 =>
          cases h2
          exact one_sorted (k := none) hu I h1 (by simp) (fun v hv => absurd hv (by simp)) (fin [] [] .nil q)
        | [d], _, q, h2 =>
          by_cases z : sortable1 d = true
          · simp only [z, if_true] at q
            refine one_sorted (k := d.py) hu I h1 (by rw [← h2.length]; simp) (fun v hv => ?_) (fin [d] vs h2 q)
            obtain ⟨w, rfl, hw⟩ := h2.one
            rw [List.mem_singleton.mp hv]
            unfold sortable1 at z
            cases e : d.py with
            | none => rw [e] at z; cases z
            | some k =>
              rw [e] at z
              simp only [Bool.and_eq_true, decide_eq_true_eq] at z
              exact ⟨k, rfl, hw.dp e, z.2, z.1.2, z.1.1⟩
          · simp only [z] at q; exact False.elim q
        | d :: e :: ds, _, q, h2 =>
          dsimp only at q
          cases z : strsOf (d :: e :: ds) with
          | none => simp only [z] at q; exact False.elim q
          | some xs =>
            simp only [z] at q
            by_cases z2 : xs.length < 64
            · rw [if_pos z2] at q
              have e1 := h2.strs z
              subst e1
              refine cr_sortedS pins s σ H [.ref a] [.ref a] Q I rr ⟨a, xs, rfl, .of h1, z2, fun ys p hp hs hn => ?_⟩
              rw [sortS_uniq hp hs]
              exact fin _ _ (DVs.ofStrs _) q p hn
            · rw [if_neg z2] at q; exact False.elim q
end
end SL
set_option Elab.async false
set_option linter.all false
set_option maxRecDepth 100000
namespace SL
open PySem PySem.Spec PyProof.Rows L2

/-! ### one of two -/
def altO1 (f g : OpN) : OpN := fun ds S => match f ds S with
  | none => g ds S
  | x => x
def altO2 (f g : Op2) : Op2 := fun d e S => match f d e S with
  | none => g d e S
  | x => x
def altS (a b : MS) : MS := fun l S => match a l S with
  | .bad => b l S
  | x => x
section
variable {X : Cx}
theorem altO2_run {f g : Op2} {x y : V} {H : Hp} {Q : VK} (h : liftO2 X (altO2 f g) x y H Q) : liftO2 X f x y H Q ∨ liftO2 X g x y H Q := by
  obtain ⟨R, S, d, e, r, hd, he, q⟩ := h
  unfold altO2 at q
  cases z : f d e S with
  | none => rw [z] at q; exact .inr ⟨R, S, d, e, r, hd, he, q⟩
  | some p => rw [z] at q; exact .inl ⟨R, S, d, e, r, hd, he, by rw [z]; exact q⟩
theorem OpR.alt {F : Value → Value → Sem Value} {f g : Op2} (hf : OpR X F (liftO2 X f)) (hg : OpR X F (liftO2 X g)) : OpR X F (liftO2 X (altO2 f g)) := fun pins s σ H x y v u Q I rx ry h => by
  rcases altO2_run h with h | h
  · exact hf pins s σ H x y v u Q I rx ry h
  · exact hg pins s σ H x y v u Q I rx ry h
theorem IxR.alt {f g : Op2} (hf : IxR X (liftO2 X f)) (hg : IxR X (liftO2 X g)) : IxR X (liftO2 X (altO2 f g)) := fun va sl pins s σ H x y v u Q I rx ry h hs => by
  rcases altO2_run h with h | h
  · exact hf va sl pins s σ H x y v u Q I rx ry h hs
  · exact hg va sl pins s σ H x y v u Q I rx ry h hs
theorem CallR.alt {F : Value} {f g : OpN} (hf : CallR X F (liftON X f)) (hg : CallR X F (liftON X g)) : CallR X F (liftON X (altO1 f g)) := fun pins s σ H vs us Q I rr h => by
  obtain ⟨R, S, ds, r, hd, q⟩ := h
  unfold altO1 at q
  cases z : f ds S with
  | none => rw [z] at q; exact hg pins s σ H vs us Q I rr ⟨R, S, ds, r, hd, q⟩
  | some p => rw [z] at q; exact hf pins s σ H vs us Q I rr ⟨R, S, ds, r, hd, by rw [z]; exact q⟩
theorem ss_alt {st : Stmt} {a b : MS} (ha : SS X st a) (hb : SS X st b) : SS X st (altS a b) := ⟨fun W tk => by
  refine ⟨fun pins s σ H Dn I ⟨R, S, l, r, hl, q⟩ => ?_⟩
  unfold altS at q
  cases z : a l S with
  | bad => rw [z] at q; exact (hb.run W tk).run pins s σ H Dn I ⟨R, S, l, r, hl, q⟩
  | ok d S1 => rw [z] at q; exact (ha.run W tk).run pins s σ H Dn I ⟨R, S, l, r, hl, by rw [z]; exact q⟩
  | err c fs S1 => rw [z] at q; exact (ha.run W tk).run pins s σ H Dn I ⟨R, S, l, r, hl, by rw [z]; exact q⟩⟩
end

/-! ### dicts with keys that are tuples -/
def okKey (d : D) : Option NestedKey := match d with
  | .tup ds => match nkey (.tup ds) with
    | some k => if k.depth ≤ 8 then some k else none
    | none => none
  | _ => none
def asN : OB → Option (List (D × D))
  | .dN kvs => some kvs
  | .dK [] => some []
  | _ => none
def getN (kvs : List (D × D)) (k : NestedKey) : Option D := (kvs.find? fun p => decide (nkey p.1 = some k)).map (·.2)
def putN (kvs : List (D × D)) (d : D) (k : NestedKey) (v : D) : List (D × D) := if (getN kvs k).isSome then kvs.map (fun p => if nkey p.1 = some k then (p.1, v) else p) else kvs ++ [(d, v)]
def dictN (S : Sto) (d : D) : Option (Nat × List (D × D)) := match d with
  | .ref n => match S[n]? with
    | some o => (asN o).map fun kvs => (n, kvs)
    | none => none
  | _ => none
def oInN (neg : Bool) : Op2 := fun e d S => match dictN S d, okKey e with
  | some (_, kvs), some k => some (.bl (if neg then !(getN kvs k).isSome else (getN kvs k).isSome), S)
  | _, _ => none
def oIxN : Op2 := fun d e S => match dictN S d, okKey e with
  | some (_, kvs), some k => (getN kvs k).map fun x => (x, S)
  | _, _ => none
def sPutN (o i v : ME) : MS := fun l S => (v l S).bind fun e S1 => (o l S1).bind fun d S2 => (i l S2).bind fun k S3 => match dictN S3 d, okKey k with
  | some (n, kvs), some nk => if kvs.length < 1000000 then .ok (.nx, l) (S3.set n (.dN (putN kvs k nk e))) else .bad
  | _, _ => .bad
section
variable {X : Cx} {pins : List (Addr × Obj)} {σ : L2.St} {H : Hp} {s : Shared} {R : List Addr} {S : Sto}
mutual
theorem nested_of (I : Inv X pins σ H s) : ∀ {d : D} {v : V} {u : Value} {k : NestedKey}, DV X.K R H d v → RelV v u → nkey d = some k → NestedIs s.heap k u
  | .non, v, u, k, h, r, e => by cases h; cases e; cases r; exact .none
  | .int i, v, u, k, h, r, e => by cases h; cases e; obtain ⟨t, rfl⟩ := r; exact .int i t
  | .str x, v, u, k, h, r, e => by cases h; cases e; obtain ⟨t, rfl⟩ := r; exact .text x t
  | .tup ds, v, u, k, h, r, e => by
    cases h with
    | tup sq t =>
      have e' : (nkeys ds).map NestedKey.tup = some k := e
      cases q : nkeys ds with
      | none => rw [q] at e'; cases e'
      | some ks =>
        rw [q] at e'
        cases e'
        cases r
        obtain ⟨its, rv, ⟨o, h1, h2, n, h3⟩, _⟩ := I.tuple sq
        exact .tup h1 h2 h3 (by simpa using nesteds_of I t rv q)
  | .bl _, _, _, _, _, _, e => by cases e
  | .ty _, _, _, _, _, _, e => by cases e
  | .gl _, _, _, _, _, _, e => by cases e
  | .ref _, _, _, _, _, _, e => by cases e
theorem nesteds_of (I : Inv X pins σ H s) : ∀ {ds : List D} {vs : List V} {us : List Value} {ks : List NestedKey}, DVs X.K R H ds vs → Vals vs us → nkeys ds = some ks → NestedAll s.heap ks us
  | [], _, _, _, h, r, e => by cases h; cases r; cases e; exact .nil
  | d :: ds, _, _, _, h, r, e => by
    cases h with
    | cons a t =>
      cases r with
      | cons r1 r2 =>
        have e' : (match nkey d, nkeys ds with
          | some k, some ks => some (k :: ks)
          | _, _ => none) = some _ := e
        cases q1 : nkey d with
        | none => rw [q1] at e'; cases e'
        | some k =>
          cases q2 : nkeys ds with
          | none => rw [q1, q2] at e'; cases e'
          | some ks => rw [q1, q2] at e'; cases e'; exact .cons (nested_of I a r1 q1) (nesteds_of I t r2 q2)
end
theorem okKey_at (I : Inv X pins σ H s) {d : D} {v : V} {u : Value} {k : NestedKey} (h : DV X.K R H d v) (r : RelV v u) (e : okKey d = some k) : ∃ a, v = .ref a ∧ u = .ref a ∧ nkey d = some k ∧ k.depth ≤ 8 ∧ (nestedKind X.prog X.w).is s.heap k a := by
  unfold okKey at e
  cases d <;> first | cases e | skip
  rename_i ds
  simp only at e
  cases q : nkey (.tup ds) with
  | none => rw [q] at e; cases e
  | some k' =>
    rw [q] at e
    simp only at e
    split at e
    · rename_i hd
      cases e
      obtain ⟨a, xs, rfl, sq, t⟩ := h.tupv
      obtain rfl : u = Value.ref a := r
      exact ⟨a, rfl, rfl, rfl, hd, nested_of I h rfl q, hd⟩
    · cases e
theorem emptyD_at (I : Inv X pins σ H s) {d : Addr} (h : H d = some (.dK [])) : (d == sysModules) = false ∧ s.heap.DictOfH (nestedKind X.prog X.w) d [] := by
  obtain ⟨_, hs, vs, kv, o, es, ep, ho, hx, hdt, kf, pr, nd⟩ := I.hok d _ h
  cases kv
  refine ⟨hs, o, es, ep, ho, hx, hdt, ?_, (fun _ h => absurd h (by simp)), .nil⟩
  have l := pr.length
  exact List.eq_nil_of_length_eq_zero (by simpa using l)
/-- what the store says of such a dict -/
theorem dictN_at (I : Inv X pins σ H s) (r : RelX X R S H) {d : D} {v : V} {n : Nat} {kvs : List (D × D)} (h : DV X.K R H d v) (e : dictN S d = some (n, kvs)) :
    ∃ a xs, d = .ref n ∧ v = .ref a ∧ R[n]? = some a ∧ (a == sysModules) = false ∧ Mut (H a) ∧ (∃ u, H a = some u ∧ isFrz u = false ∧ tupish u = false) ∧ s.heap.DictOfH (nestedKind X.prog X.w) a xs ∧ Paired (EntN X.w X.K R H) kvs xs := by
  unfold dictN at e
  cases d <;> first | cases e | skip
  rename_i m
  simp only at e
  obtain ⟨a, rfl, ha⟩ := h.refv
  cases q : S[m]? with
  | none => simp only [q] at e; cases e
  | some o =>
    simp only [q] at e
    obtain ⟨kvs', e1, e2⟩ := Option.map_eq_some_iff.mp e
    cases e2
    have ob := r.ob _ a o ha q
    cases o <;> first | cases e1 | skip
    · rename_i kk
      cases kk with
      | cons _ _ => cases e1
      | nil =>
        cases e1
        obtain ⟨kvs', h1, h2⟩ := ob
        cases h2
        obtain ⟨hs, hd⟩ := emptyD_at I h1
        exact ⟨a, [], rfl, rfl, ha, hs, by rw [h1]; trivial, ⟨_, h1, rfl, rfl⟩, hd, .nil⟩
    · obtain ⟨o, es, ep, xs, h1, h2, h3, h4, h5, h6, h7⟩ := ob
      refine ⟨a, xs, rfl, rfl, ha, h2, by rw [h1]; trivial, ⟨_, h1, rfl, rfl⟩, ⟨o, es, ep, (I.hok a _ h1).1, h3, h4, h5, ?_, h6⟩, h7⟩
      have all : ∀ {kvs : List (D × D)} {xs : List (NestedKey × Addr × Value)}, Paired (EntN X.w X.K R H) kvs xs → ∀ x ∈ xs, (nestedKind X.prog X.w).is s.heap x.1 x.2.1 := by
        intro kvs xs hp
        induction hp with
        | nil => exact fun _ h => absurd h (by simp)
        | cons h t ih =>
          intro x hx
          rcases List.mem_cons.mp hx with e | e
          · rw [e]
            exact ⟨nested_of I h.2.2.1 rfl h.1, h.2.1⟩
          · exact ih x e
      exact all h7
theorem getN_at {kvs : List (D × D)} {xs : List (NestedKey × Addr × Value)} {k : NestedKey} (h : Paired (EntN X.w X.K R H) kvs xs) : match getN kvs k with
    | some d => ∃ a val v, atKey xs k = some (a, val) ∧ DV X.K R H d v ∧ RelV v val
    | none => atKey xs k = none := by
  induction h with
  | nil => rfl
  | @cons p x kvs xs h t ih =>
    obtain ⟨e1, _, _, v, e3, e4⟩ := h
    unfold getN atKey
    by_cases e : x.1 = k
    · have e' : nkey p.1 = some k := by rw [e1, e]
      simp only [List.find?_cons, decide_eq_true e, decide_eq_true e', Option.map_some]
      exact ⟨x.2.1, x.2.2, v, rfl, e3, e4⟩
    · have e' : ¬ nkey p.1 = some k := by rw [e1]; exact fun z => e (Option.some.inj z)
      simp only [List.find?_cons, decide_eq_false e, decide_eq_false e']
      exact ih
theorem getN_some {kvs : List (D × D)} {xs : List (NestedKey × Addr × Value)} {k : NestedKey} (h : Paired (EntN X.w X.K R H) kvs xs) : (getN kvs k).isSome = (atKey xs k).isSome := by
  have q := getN_at (k := k) h
  cases e : getN kvs k with
  | none => rw [e] at q; rw [q]; rfl
  | some d => rw [e] at q; obtain ⟨a, val, v, q, _⟩ := q; rw [q]; rfl
theorem EntN.length {w : World} {K : PySem.W.Frag} {kvs : List (D × D)} {xs : List (NestedKey × Addr × Value)} (h : Paired (EntN w K R H) kvs xs) : kvs.length = xs.length := Paired.length h
theorem putN_at {kvs : List (D × D)} {xs : List (NestedKey × Addr × Value)} {k : NestedKey} {d e : D} {a : Addr} {v : V} {val : Value} (h : Paired (EntN X.w X.K R H) kvs xs) (e1 : nkey d = some k) (e2 : k.depth ≤ 8) (hd : DV X.K R H d (.ref a)) (he : DV X.K R H e v) (rv : RelV v val) :
    Paired (EntN X.w X.K R H) (putN kvs d k e) (storedH xs k a val) := by
  unfold putN storedH
  rw [getN_some h]
  split
  · rename_i hh
    clear e1 e2 hd hh
    induction h with
    | nil => exact .nil
    | @cons p x kvs xs h t ih =>
      obtain ⟨g1, g2, g3, w, g4, g5⟩ := h
      refine .cons ?_ ih
      unfold putAt
      by_cases z : x.1 = k
      · have z' : nkey p.1 = some k := by rw [g1, z]
        dsimp only
        rw [if_pos z, if_pos z']
        exact ⟨g1, g2, g3, v, he, rv⟩
      · have z' : ¬ nkey p.1 = some k := by rw [g1]; exact fun q => z (Option.some.inj q)
        dsimp only
        rw [if_neg z, if_neg z']
        exact ⟨g1, g2, g3, w, g4, g5⟩
  · exact Paired.snoc h ⟨e1, e2, hd, v, he, rv⟩
theorem room8 (hu : X.A.units + 64 < cLine) : (nestedKind X.prog X.w).room X.A.in1 := by
  show X.A.units + 1 + 8 < cLine
  omega
theorem inN_run {neg : Bool} (hu : X.A.units + 64 < cLine) {x y : V} {v u : Value} {Q : VK} (I : Inv X pins σ H s) (rx : RelV x v) (ry : RelV y u) (h : liftO2 X (oInN neg) x y H Q) :
    ∃ a d k xs, v = .ref a ∧ u = .ref d ∧ (d == sysModules) = false ∧ (nestedKind X.prog X.w).is s.heap k a ∧ s.heap.DictOfH (nestedKind X.prog X.w) d xs ∧ Q (.bl (if neg then !(atKey xs k).isSome else (atKey xs k).isSome)) H := by
  obtain ⟨R, S, e, d, r, he, hd, q⟩ := h
  unfold oInN at q
  cases q1 : dictN S d with
  | none => rw [q1] at q; exact False.elim q
  | some p =>
    obtain ⟨n, kvs⟩ := p
    cases q2 : okKey e with
    | none => rw [q1, q2] at q; exact False.elim q
    | some k =>
      rw [q1, q2] at q
      obtain ⟨a, xs, rfl, rfl, ha, hs, _, _, hm, pr⟩ := dictN_at I r hd q1
      obtain ⟨b, rfl, rfl, _, _, hk⟩ := okKey_at I he rx q2
      obtain rfl : u = Value.ref a := ry
      refine ⟨b, a, k, xs, rfl, rfl, hs, hk, hm, ?_⟩
      rw [← getN_some pr]
      exact OutO.pure q r _ (.bl _)
theorem s_inN (hu : X.A.units + 64 < cLine) : OpR X (compareOp .In) (liftO2 X (oInN false)) := fun pins s σ H x y v u Q I rx ry h => by
  obtain ⟨a, d, k, xs, rfl, rfl, hs, hk, hm, q⟩ := inN_run hu I rx ry h
  exact wpAny_in_heap (room8 hu) hk hs hm ⟨.bl _, H, I.tok _, rfl, q⟩
theorem s_notInN (hu : X.A.units + 64 < cLine) : OpR X (compareOp .NotIn) (liftO2 X (oInN true)) := fun pins s σ H x y v u Q I rx ry h => by
  obtain ⟨a, d, k, xs, rfl, rfl, hs, hk, hm, q⟩ := inN_run hu I rx ry h
  refine notIn_keyed (room8 hu) hk hs ⟨xs, hm, rfl⟩ ⟨.bl _, H, I.tok _, ?_, q⟩
  rw [valueAt_pairsH, Option.isSome_map]
  rfl
/-- an item of a dict -/
theorem sub_dict {value slice : Expr} {o i : Value} {Q : Value → Shared → Prop} {E : Value → Shared → Prop} (hT : s.TypeIs o "dict") (hs : subscripted slice false o i = operate [o, i] (getItem o i)) (h : wpAny (model X.prog X.w) X.A (getItem o i) Q E s) :
    wpAny (model X.prog X.w) X.A (subscriptTail value slice o i) Q E s := by
  have tail : wpAny (model X.prog X.w) X.A (subscripted slice false o i) (fun r s3 => wpAny (model X.prog X.w) X.A (letTemporaryGo value o r >>= fun _ => pure r) Q E s3) E s := by
    rw [hs]
    exact wpAny_operating (thn h fun r s3 h3 => wpAny_bind (wpAny_letTemporaryGo (wpAny_pure h3)))
  unfold subscriptTail
  refine wpAny_bind ?_
  rw [getitemInPython_of_ne hT.not_modules]
  refine wpAny_bind (wpAny_specialOf hT PySem.F.slot_dict_getitem.lookup ?_)
  first
    | exact wpAny_pure (wpAny_bind tail)
    | exact wpAny_bind (wpAny_pure (wpAny_bind tail))
    | exact wpAny_bind tail
theorem s_ixN (hu : X.A.units + 64 < cLine) : IxR X (liftO2 X oIxN) := fun va sl pins s σ H x y v u Q I rx ry h hs => by
  obtain ⟨R, S, d, e, r, hd, he, q⟩ := h
  unfold oIxN at q
  cases q1 : dictN S d with
  | none => rw [q1] at q; exact False.elim q
  | some p =>
    obtain ⟨n, kvs⟩ := p
    cases q2 : okKey e with
    | none => rw [q1, q2] at q; exact False.elim q
    | some k =>
      rw [q1, q2] at q
      obtain ⟨a, xs, rfl, rfl, ha, hsm, _, _, hm, pr⟩ := dictN_at I r hd q1
      obtain ⟨b, rfl, rfl, _, _, hk⟩ := okKey_at I he ry q2
      obtain rfl : v = Value.ref a := rx
      have g := getN_at (k := k) pr
      cases q3 : getN kvs k with
      | none => simp only [q3] at q; exact False.elim q
      | some d =>
        simp only [q3] at q g
        obtain ⟨b2, val, w, g1, g2, g3⟩ := g
        refine sub_dict hm.typeIs hs (wpAny_getItem_heap (room8 hu) hk hm g1 ?_)
        exact ⟨w, H, I.tok _, g3, OutO.pure q r _ g2⟩
/-! keys that are ints, texts: by values -/
theorem inK_v {neg : Bool} {x y : V} {Q : VK} (h : liftO2 X (oInK neg) x y H Q) : ∃ a o, y = .ref a ∧ DGet H a x o ∧ Q (.bl (if neg then !o.isSome else o.isSome)) H := by
  obtain ⟨R, S, e, d, r, he, hd, q⟩ := h
  unfold oInK at q
  cases d <;> first | exact False.elim q | skip
  rename_i n
  cases q0 : keyD e with
  | none => simp only [q0] at q; exact False.elim q
  | some k =>
    simp only [q0] at q
    obtain ⟨a, rfl, hn⟩ := hd.refv
    cases q1 : S[n]? with
    | none => simp only [q1] at q; exact False.elim q
    | some o =>
      simp only [q1] at q
      cases o <;> first | exact False.elim q | skip
      obtain ⟨kvs', h1, h2⟩ := r.ob n a _ hn q1
      have e1 := keyD_v he q0
      subst e1
      refine ⟨a, valV kvs' k, rfl, DGet.k h1, ?_⟩
      rw [h2.isSome]
      exact OutO.pure q r _ (.bl _)
theorem s_inK (hu : X.A.units + 64 < cLine) : OpR X (compareOp .In) (liftO2 X (oInK false)) := fun pins s σ H x y v u Q I rx ry h => by
  obtain ⟨a, o, rfl, g, q⟩ := inK_v h
  obtain rfl : u = Value.ref a := ry
  exact d_in (by omega) I g rx fun s' I' => ⟨.bl o.isSome, H, I', rfl, q⟩
theorem s_notInK (hu : X.A.units + 64 < cLine) : OpR X (compareOp .NotIn) (liftO2 X (oInK true)) := fun pins s σ H x y v u Q I rx ry h => by
  obtain ⟨a, o, rfl, g, q⟩ := inK_v h
  obtain rfl : u = Value.ref a := ry
  exact d_notIn (by omega) I g rx fun s' I' => ⟨.bl (!o.isSome), H, I', rfl, q⟩
theorem s_ixK (hu : X.A.units + 64 < cLine) : IxR X (liftO2 X oIxK) := fun va sl pins s σ H x y v u Q I rx ry h hs => by
  obtain ⟨R, S, d, e, r, hd, he, q⟩ := h
  unfold oIxK at q
  cases d <;> first | exact False.elim q | skip
  rename_i n
  cases q0 : keyD e with
  | none => simp only [q0] at q; exact False.elim q
  | some k =>
    simp only [q0] at q
    obtain ⟨a, rfl, hn⟩ := hd.refv
    cases q1 : S[n]? with
    | none => simp only [q1] at q; exact False.elim q
    | some o =>
      simp only [q1] at q
      cases o <;> first | exact False.elim q | skip
      rename_i kvs
      obtain ⟨kvs', h1, h2⟩ := r.ob n a _ hn q1
      have e1 := keyD_v he q0
      subst e1
      cases q2 : getA kvs k with
      | none => simp only [q2] at q; exact False.elim q
      | some x =>
        simp only [q2] at q
        obtain ⟨y, k1, k2⟩ := h2.some q2
        obtain rfl : v = Value.ref a := rx
        have g : DGet H a (kV k) (some y) := k1 ▸ DGet.k h1
        exact sub_dict (dict_typeIs I g) hs (d_getItem (by omega) I g ry fun w' s3 I3 rw' => ⟨y, H, I3, rw', OutO.pure q r _ k2⟩)
/-! d[k] = v -/
theorem ss_putN {o i v : Expr} {mo mi mv : ME} {pos pos' : Pos} (hu : X.A.units + 64 < cLine) (ho : SE X o mo) (hi : SE X i mi) (hv : SE X v mv) (hs : swapsWith v (some (.Subscript o i pos')) pos.line X.env = pure false := by rfl) : SS X (.Assign [.Subscript o i pos'] v pos) (sPutN mo mi mv) := ⟨fun W tk => by
  refine ⟨fun pins s σ H Dn I h => ?_⟩
  have h2 := liftS.bind2 (T := fun x y H1 => liftE X mi W σ H1 fun z H2 => ∀ pins (s : Shared) (val dv kv : Value), Inv X pins σ H2 s → RelV x val → RelV y dv → RelV z kv → wpAny (model X.prog X.w) X.A (setItem dv kv val) (fun _ s' => ∃ H', Inv X pins σ H' s' ∧ Dn.nx σ H') X.xe s) (f := fun l e d S2 => (mi l S2).bind fun k S3 => match dictN S3 d, okKey k with
    | some (n, kvs), some nk => if kvs.length < 1000000 then .ok (.nx, l) (S3.set n (.dN (putN kvs k nk e))) else .bad
    | _, _ => .bad) h fun R S l e d u v H' r hl he hd q => by
      refine ⟨R, S, l, r, hl, (Out.bind q).impW (fun k S1 R1 H1 x1 r1 q5 y hy => ?_) fun _ _ _ q => q σ⟩
      intro pins s val dv kv I rval rdv rkv
      have he1 := he.ext r x1
      have hd1 := hd.ext r x1
      cases q1 : dictN S1 d with
      | none => simp only [q1] at q5; exact False.elim q5
      | some p =>
        obtain ⟨n, kvs⟩ := p
        cases q2 : okKey k with
        | none => simp only [q1, q2] at q5; exact False.elim q5
        | some nk =>
          simp only [q1, q2] at q5
          obtain ⟨a, xs, rfl, rfl, ha, hsm, mu, ⟨u0, hu0, hfz, htp⟩, hm, pr⟩ := dictN_at I r1 hd1 q1
          obtain ⟨b, rfl, rfl, hnk, hdp, hk⟩ := okKey_at I hy rkv q2
          obtain rfl : dv = Value.ref a := rdv
          by_cases z : kvs.length < 1000000
          · rw [if_pos z] at q5
            have lenx : xs.length < 1000000 := by rw [← EntN.length pr]; exact z
            refine wpAny_setItem_heap (room8 hu) hk hm (fun h' hm' sb => ?_) (by rw [sizeLine_eq]; omega)
            obtain ⟨o', es', ep', g1, g2, g3, g4, g5, g6⟩ := hm'
            have I' : Inv X pins σ (upd H1 a (pinO a o')) { s with heap := h', toks := s.toks + (nestedKind X.prog X.w).draws nk } := I.write (x := a) (e := a) (by rw [hu0] at mu ⊢; exact mu) (.inl rfl) (fun b u hb q => (sb.2 b hb).trans q) ⟨o', g1⟩ ⟨g1, ⟨o', g1⟩, fun h1 h2 p k => k o' p⟩
            have xx : Ext R1 H1 R1 (upd H1 a (pinO a o')) := Ext.write (List.mem_of_getElem? ha) hu0 hfz
            have pr2 := putN_at pr hnk hdp hy he1 rval
            refine ⟨_, I', q5 R1 _ xx (r1.write ha hu0 hfz ⟨o', es', ep', _, upd_same, hsm, g2, g3, g4, g6, ?_⟩) σ ((hl.ext r x1).ext r1 xx)⟩
            exact Paired.imp (fun p x ⟨k1, k0, k2, v, k3, k4⟩ => ⟨k1, k0, k2.ext r1 xx, v, k3.ext r1 xx, k4⟩) pr2
          · rw [if_neg z] at q5; exact False.elim q5
  exact wpAny_Assign_Subscript (thn ((hv.run W tk).run pins s σ H _ I h2) fun val s1 ⟨x, H1, I1, rx, q1⟩ => thn ((ho.run W tk).run pins s1 σ H1 _ I1 q1) fun dv s2 ⟨y, H2, I2, ry, q2⟩ => thn ((hi.run W tk).run pins s2 σ H2 _ I2 q2) fun kv s3 ⟨z, H3, I3, rz, q3⟩ => thn (q3 pins s3 val dv kv I3 rx ry rz) fun _ s4 ⟨H4, I4, q4⟩ => ⟨σ, H4, I4, q4⟩) hs⟩
end
end SL
set_option Elab.async false
set_option linter.all false
set_option maxRecDepth 100000
namespace SL
open PySem PySem.Spec PyProof.Rows L2

/-! ### the keys of a dict whose keys are tuples -/
def altI (a b : MI) : MI := fun l S => match a l S with
  | .bad => b l S
  | x => x
theorem SI.alt {X : Cx} {tg e : Expr} {a b : MI} (ha : SI X tg e a) (hb : SI X tg e b) : SI X tg e (altI a b) := ⟨fun W tk => by
  refine ⟨fun pins s σ H Q I ⟨R, S, l, r, hl, q⟩ => ?_⟩
  unfold altI at q
  cases z : a l S with
  | bad => rw [z] at q; exact (hb.run W tk).run pins s σ H Q I ⟨R, S, l, r, hl, q⟩
  | ok d S1 => rw [z] at q; exact (ha.run W tk).run pins s σ H Q I ⟨R, S, l, r, hl, by rw [z]; exact q⟩
  | err c fs S1 => rw [z] at q; exact (ha.run W tk).run pins s σ H Q I ⟨R, S, l, r, hl, by rw [z]; exact q⟩⟩
def iKeysLN (a : ME) : MI := fun l S => (a l S).bind fun d S1 => match d with
  | .ref n => match S1[n]? with
    | some (.lkN _) => .ok (fun i S => match S[n]? with
      | some (.lkN kvs) => some (kvs[i]?.map (·.1))
      | _ => none) S1
    | _ => .bad
  | _ => .bad
/-- the locked dict at d (o, as it stands), its keys' addresses -/
def ItN (d : Addr) (o : Obj) (as : List Addr) : It :=
  ⟨fun i H => H d = some (.frz o (pinO d o)) ∧ i < as.length, fun i H x H' => H' = H ∧ ∃ b, as[i]? = some b ∧ x = .ref b, fun i H => H d = some (.frz o (pinO d o)) ∧ as.length ≤ i⟩
section
variable {P : Program} {w : World} {K : PySem.W.Frag} {tg : Expr} {d : Addr} {o : Obj} {es : Array DictEntry} {ep : Nat}
theorem frzN_at {X : Cx} {pins : List (Addr × Obj)} {σ : L2.St} {H : Hp} {s : Shared} (I : Inv X pins σ H s) (h : H d = some (.frz o (pinO d o))) : s.heap.get? d = some o := (I.hok d _ h).2.1
theorem turn_keysN {xs : List (NestedKey × Addr × Value)} (it : Addr) (hod : o.data = .dict es ep) (hes : es.toList = xs.map (entryOfKey (nestedKind P w))) : Turn P w K tg (ItN d o (xs.map fun x => x.2.1)) [it] it (fun i h => h.IsKeyIter it d i xs.length ep) where
  mem := by simp
  obj := fun i h st b hb => by
    obtain rfl : b = it := by simpa using hb
    obtain ⟨oi, e, c, dd⟩ := st
    exact ⟨oi, e, fun v z => by rw [dd] at z; cases z⟩
  keep := fun i h h' st k => st.at fun oi e => k it (by simp) oi e
  item := by
    intro X hP hw hK hc i pins s σ H E I hf st hg
    subst hP hw hK
    obtain ⟨hd, hi⟩ := hg
    obtain ⟨f0, f1, f2, f3, f4, f5⟩ := hf it (by simp)
    have hgd := frzN_at I hd
    rw [List.length_map] at hi
    have hx : xs[i]? = some xs[i] := List.getElem?_eq_getElem hi
    have hen : es[i]? = some (entryOfKey (nestedKind X.prog X.w) xs[i]) := by rw [entry_at hes, hx]; rfl
    refine next_key_item st hgd hod (size_of_entries hes) hen fun h' st' sb => ?_
    have I1 : Inv X pins σ H { s with heap := h' } := I.turned (t' := s.toks) (fun b ob hb e => (sb.2 b hb).trans e) f0 f1 f3 f4 f5
    obtain ⟨oi, e, c, dd⟩ := id st'
    exact ⟨_, rfl, go_of (s := { s with heap := h' }) e c dd (by decide) ⟨.ref xs[i].2.1, H, I1, rfl, ⟨rfl, xs[i].2.1, by rw [List.getElem?_map, hx]; rfl, rfl⟩, st', fun b hb => (hf b hb).1⟩⟩
  done := by
    intro X hP hw hK hc i pins s σ H E I hf st hg
    subst hP hw hK
    obtain ⟨hd, hi⟩ := hg
    obtain ⟨f0, f1, f2, f3, f4, f5⟩ := hf it (by simp)
    rw [List.length_map] at hi
    exact next_key_end (I.ok.hd hc) st (frzN_at I hd) hod (size_of_entries hes) hi fun h' eb => ⟨rfl, I.turned (t' := s.toks) (fun b ob hb e => eb b ob hb e) f0 f1 f3 f4 f5⟩
  self := fun A i s Q E st h => wpAny_pyIter_keyiter st h
end
section
variable {X : Cx} {tg e : Expr} {me : ME}
def iKeysNt (td : TE) : TI := fun σ H R => td σ H fun x H1 => ∃ d o es ep, ∃ xs : List (NestedKey × Addr × Value), x = .ref d ∧ H1 d = some (.frz o (pinO d o)) ∧ (d == sysModules) = false ∧ o.ExactDict ∧ o.data = .dict es ep ∧ es.toList = xs.map (entryOfKey (nestedKind X.prog X.w)) ∧ R (ItN d o (xs.map fun x => x.2.1)) H1
theorem pi_keysN {td : TE} (he : PE X e td) : PI X tg e (iKeysNt (X := X) td) := by
  refine ⟨fun pins s σ H R I h => ?_⟩
  refine thn (he.run pins s σ H _ I h) fun u s1 ⟨x, H1, I1, rx, d, o, es, ep, xs, ex, hd, hs, hx, hdt, hes, q⟩ => ?_
  subst ex
  obtain rfl : u = Value.ref d := rx
  refine iter_keys hs (frzN_at I1 hd) hx hdt (pi_one (tk := s1.toks) I1 _ (turn_keysN _ hdt hes) ⟨_, Heap.get?_push_size _ rfl, rfl, ?_⟩ q)
  rw [size_of_entries hes] <;> rfl
theorem si_keysLN (he : SE X e me) : SI X tg e (iKeysLN me) := ⟨fun W tk => by
  refine PI.mono (pi_keysN (he.run W tk)) fun σ H Rk ⟨R, S, l, r, hl, h⟩ => ?_
  refine ⟨R, S, l, r, hl, (Out.bind h).imp fun d S1 R1 H1 x1 r1 q v hv => ?_⟩
  cases d <;> first | exact False.elim q | skip
  rename_i n
  obtain ⟨a, rfl, hn⟩ := hv.refv
  dsimp only at q
  cases q1 : S1[n]? with
  | none => simp only [q1] at q; exact False.elim q
  | some ob =>
    simp only [q1] at q
    cases ob <;> first | exact False.elim q | skip
    obtain ⟨o, es, ep, xs, h1, c1, c2, c3, c4, c5, h2⟩ := r1.ob n a _ hn q1
    refine ⟨a, o, es, ep, xs, rfl, h1, c1, c2, c3, c4, Out.pure q r1 _ fun i R S H x r => ?_⟩
    have hh := x.frz a o _ h1
    cases z : S[n]? with
    | none => simp only [z]
    | some ob =>
      cases ob <;> first | (simp only [z]; done) | skip
      rename_i kvs
      obtain ⟨o2, es2, ep2, xs2, g1, _, _, g4, g5, _, g2⟩ := r.ob n a _ (x.get hn) z
      rw [hh] at g1
      have eo : o = o2 := (HO.frz.inj (Option.some.inj g1)).1
      subst eo
      -- the same entries
      have e1 : es2 = es := (dict_ep c3 g4).1
      subst e1
      have e2 : (xs2.map fun x => x.2.1) = xs.map fun x => x.2.1 := by
        have q := g5.symm.trans c4
        have q2 := congrArg (List.map fun e : DictEntry => (match e.key with | .ref b => b | _ => a)) q
        simpa [entryOfKey, Function.comp_def] using q2
      simp only [z]
      cases z2 : kvs[i]? with
      | none => exact ⟨hh, by rw [← e2, List.length_map, ← EntN.length g2]; exact List.getElem?_eq_none_iff.mp z2⟩
      | some kv =>
        have hi : i < xs2.length := by rw [← EntN.length g2]; exact (List.getElem?_eq_some_iff.mp z2).1
        refine ⟨⟨hh, by rw [← e2, List.length_map]; exact hi⟩, fun u H' hy => ?_⟩
        obtain ⟨e3, b, e4, e5⟩ := hy
        subst e3; subst e5
        obtain ⟨p, hp, e6, _, e7, _⟩ := paired_get g2 z2
        rw [← e2, List.getElem?_map, hp] at e4
        cases e4
        exact ⟨.refl, r, e7⟩⟩
end

/-! ### sorted(a dict with one key) -/
def oSortedN : OpN := fun ds S => match ds with
  | [d] => match dictN S d with
    | some (_, []) => some (.ref S.length, S ++ [.lst []])
    | some (_, [p]) => if sortable1 p.1 then some (.ref S.length, S ++ [.lst [p.1]]) else none
    | _ => none
  | _ => none
section
open PySem.Calls PyProof.V PySem.W
variable {X : Cx}
theorem sorted_few (hc : X.calm = true) (hu : X.A.units + 66 < cLine) {pins : List (Addr × Obj)} {σ : L2.St} {H : Hp} {s : Shared} {a : Addr} {xs : List (NestedKey × Addr × Value)} {vs : List V} {k : Option PyData} {Q : VK} (I : Inv X pins σ H s) (hs : (a == sysModules) = false) (hm : s.heap.DictOfH (nestedKind X.prog X.w) a xs) (hv : vs = xs.map fun x => V.ref x.2.1) (hl1 : vs.length ≤ 1) (hk : ∀ v ∈ vs, ∃ d, k = some d ∧ Dp X.K H v d ∧ d.depth ≤ 64 ∧ PySem.W.alike d d = true ∧ sortShape d = true)
    (q : ∀ p, H p = none → Q (.ref p) (upd H p (.lst vs))) : wpAny (model X.prog X.w) X.A (call (.builtin "sorted") [.ref a]) (EP X pins σ Q) X.xe s := by
  obtain ⟨o, es, ep, ho, hx, hdt, hes, his, hnd⟩ := hm
  have hh : X.A.in1.handled = none := I.ok.hd hc
  have hsz : es.size = xs.length := size_of_entries hes
  have hlx : xs.length ≤ 1 := by rw [hv, List.length_map] at hl1; exact hl1
  have raw : s.heap.DictRaw a es ep := ⟨o, ho, hx, hdt⟩
  refine call_function_entry kind_sorted plain_sorted entry_sorted
    (args_sorted1 _) ?_
  unfold Builtin.«sorted»
  refine wpAny_bind
    (m := checkCount "sorted" 1 1 _) (wpAny_pure ?_)
  refine wpAny_bind (PySem.W.kdu_collect (A := X.A.in1) (KdlSrc.rawDict hs) hh raw (by rw [hsz, sizeLine_eq]; omega) fun h' tk acc hk2 hacc => ?_)
  have hl : acc.toList.length = es.size := by rw [Array.length_toList]; exact hacc.1
  refine wpAny_bind (wpAny_newList ?_ (by rw [hl, hsz, sizeLine_eq]; omega))
  -- the items are the keys
  have items : acc.toList = xs.map fun x => Value.ref x.2.1 := by
    refine List.ext_getElem? fun j => ?_
    rw [List.getElem?_map]
    cases e : acc.toList[j]? with
    | none =>
      have : es.size ≤ j := by rw [← hl]; exact List.getElem?_eq_none_iff.mp e
      rw [List.getElem?_eq_none (by omega)]
      rfl
    | some v =>
      obtain ⟨hj, e2⟩ := hacc.2 j v (by rw [← Array.getElem?_toList]; exact e)
      have en := PySem.entry_at hes j
      rw [Array.getElem?_eq_getElem hj] at en
      cases z : xs[j]? with
      | none => rw [z] at en; cases en
      | some y =>
        rw [z] at en
        have en' : es[j] = entryOfKey (nestedKind X.prog X.w) y := Option.some.inj en
        rw [e2, en']
        rfl
  generalize hL : acc.toList = its at *
  have hg0 : (h'.push (seqObj "list" its.toArray 0)).get? h'.objs.size = some (seqObj "list" its.toArray 0) := Heap.get?_push_size _ rfl
  have rv : Vals vs its := by
    rw [hv, items]
    clear items hv hl1 hlx hsz hes his hnd hk hl raw hacc hL
    induction xs with
    | nil => exact .nil
    | cons x xs ih => exact .cons rfl ih
  have lenI : its.length ≤ 1 := by rw [← rv.length]; exact hl1
  have I1 : Inv X pins σ H { s with heap := h', toks := tk } := I.kept hk2
  have fin : ∀ out : List Value, out = its → EP X pins σ Q (.ref h'.objs.size) { s with heap := sortedHeap (h'.push (seqObj "list" its.toArray 0)) h'.objs.size its (List.toArray out), toks := tk } := fun out e => by
    subst e
    obtain ⟨ep', he'⟩ := PyProof.Rows.sortedHeap_at (out := out.toArray) hg0
    refine ⟨.ref h'.objs.size, upd H h'.objs.size (.lst vs), I1.laid (t' := tk) (fun b u e => ?_) (Nat.le_refl _) ⟨by rw [sizeLine_eq]; omega, out, _, rv, he'⟩, rfl, q _ (I1.hok.fresh (Nat.le_refl _))⟩
    have lt := Heap.lt_size e
    rw [sortedHeap_old (Nat.ne_of_lt lt) (by rw [Heap.size_push]; exact Nat.lt_succ_of_lt lt)]
    exact Heap.get?_push_of_some _ e
  have go : wpAny (model X.prog X.w) X.A.in1 (call (.builtin "list.sort") [.ref h'.objs.size]) (fun _ s' => EP X pins σ Q (.ref h'.objs.size) s') X.xe { s with heap := h'.push (seqObj "list" its.toArray 0), toks := tk } := by
    clear hacc hL
    cases rv with
    | nil => exact list_sort_data (β := PyData) (bs := []) (enc := id) (R := fun _ _ => True) hg0 .nil .nil (fun _ h => absurd h (by simp)) (.inr fun _ h => absurd h (by simp)) (Nat.zero_le _) (fun _ h => absurd h (by simp)) fun out h2 _ => fin out (List.eq_nil_of_length_eq_zero h2)
    | @cons v u vs its r t =>
      cases t with
      | cons _ _ => simp at lenI
      | nil =>
        obtain ⟨d, rfl, dp, dd, al, sh⟩ := hk v (by simp)
        obtain ⟨as, rd⟩ := Dp.reads I1 d v u dp r
        have rd' := PyProof.Rows.Reads.keeps (h' := h'.push (seqObj "list" [u].toArray 0)) (fun _ _ e => Heap.get?_push_of_some _ e) rd
        have low : h'.objs.size ∉ as := fun z => by
          obtain ⟨o, e⟩ := PyProof.On.reads_mem_get rd _ z
          exact Nat.lt_irrefl _ (Heap.lt_size e)
        refine list_sort_data (β := PyData) (bs := [d]) (enc := id) (R := fun x _ => x = u) hg0 (.cons rfl .nil) (.cons ⟨as, rd', low⟩ .nil) (fun x h y h' => ?_) ?_ (by rw [sizeLine_eq]; simp) (fun b hb => ?_) fun out h2 h3 => ?_
        · simp only [List.map_cons, List.map_nil, List.mem_singleton, id] at h h'
          subst h; subst h'
          exact al
        · cases d <;> first | cases sh | skip
          · exact .inr fun z hz => by
              simp only [List.map_cons, List.map_nil, List.mem_singleton, id] at hz
              subst hz
              exact ⟨(fun e => nomatch e), (fun _ e => nomatch e)⟩
          · exact .inr fun z hz => by
              simp only [List.map_cons, List.map_nil, List.mem_singleton, id] at hz
              subst hz
              exact ⟨(fun e => nomatch e), (fun _ e => nomatch e)⟩
          · rename_i xs
            cases xs with
            | nil => cases sh
            | cons x r => exact .inl fun z hz => by simp only [List.map_cons, List.map_nil, List.mem_singleton, id] at hz; exact ⟨x, r, hz⟩
        · rw [List.mem_singleton.mp hb]
          show X.A.units + 1 + 1 + d.depth < cLine
          omega
        · refine fin out ?_
          have e3 : ([d].mergeSort (PySem.W.dataLe false id)) = [d] := by simp
          rw [e3] at h3
          cases h3 with
          | cons a b => cases b; rw [a]
  exact wpAny_bind (wpAny_holding (thn go fun _ s' x => wpAny_pure ⟨_, rfl, x⟩))
theorem s_sortedN (hc : X.calm = true) (hu : X.A.units + 66 < cLine) : CallR X (.builtin "sorted") (liftON X oSortedN) := by
  intro pins s σ H xs us Q I rr h
  obtain ⟨R, S, ds, r, hd, q⟩ := h
  cases ds with
  | nil => exact False.elim q
  | cons d t =>
    cases t with
    | cons _ _ => exact False.elim q
    | nil =>
      obtain ⟨v, rfl, hv⟩ := hd.one
      obtain ⟨u, rfl, ru⟩ := vals1 rr
      unfold oSortedN at q
      cases q1 : dictN S d with
      | none => simp only [q1] at q; exact False.elim q
      | some p =>
        obtain ⟨n, kvs⟩ := p
        obtain ⟨a, es, rfl, rfl, ha, hs, _, _, hm, pr⟩ := dictN_at I r hv q1
        obtain rfl : u = Value.ref a := ru
        simp only [q1] at q
        have fin : ∀ (es : List D) (ws : List V), DVs X.K R H es ws → (OutO X (some (.ref S.length, S ++ [.lst es])) R H fun d' _ R' H' => ∀ v, DV X.K R' H' d' v → Q v H') → ∀ p, H p = none → Q (.ref p) (upd H p (.lst ws)) := fun es ws hw q9 p hp =>
          q9 _ _ (Ext.push hp) (r.push hp ⟨_, upd_same, hw.ext r (Ext.push hp)⟩) _ (.ref (get_last r))
        cases pr with
        | nil => exact sorted_few (k := none) hc hu I hs hm rfl (by simp) (fun v hv => absurd hv (by simp)) (fin [] [] .nil q)
        | @cons p x kvs xs h1 h2 =>
          cases h2 with
          | cons _ _ => exact False.elim q
          | nil =>
            by_cases z : sortable1 p.1 = true
            · simp only [z, if_true] at q
              refine sorted_few (k := p.1.py) hc hu I hs hm rfl (by simp) (fun v hv => ?_) (fin [p.1] [V.ref x.2.1] (.cons h1.2.2.1 .nil) q)
              have e : v = V.ref x.2.1 := by simpa using hv
              subst e
              unfold sortable1 at z
              cases e : p.1.py with
              | none => rw [e] at z; cases z
              | some k =>
                rw [e] at z
                simp only [Bool.and_eq_true, decide_eq_true_eq] at z
                exact ⟨k, rfl, h1.2.2.1.dp e, z.2, z.1.2, z.1.1⟩
            · simp only [z] at q; exact False.elim q
end
end SL
set_option Elab.async false
set_option linter.all false
set_option maxRecDepth 100000
namespace SL
open PySem PySem.Spec PyProof.Rows L2

/-! ### a dict of which only the keys are told -/
def iKeysLR (a : ME) : MI := fun l S => (a l S).bind fun d S1 => match d with
  | .ref n => match S1[n]? with
    | some (.lkR _) => .ok (fun i S => match S[n]? with
      | some (.lkR ks) => some ks[i]?
      | _ => none) S1
    | _ => .bad
  | _ => .bad
def ItR2 (d : Addr) (o : Obj) (vs : List V) : It :=
  ⟨fun i H => H d = some (.frz o (pinO d o)) ∧ i < vs.length, fun i H x H' => H' = H ∧ vs[i]? = some x, fun i H => H d = some (.frz o (pinO d o)) ∧ vs.length ≤ i⟩
section
variable {P : Program} {w : World} {K : PySem.W.Frag} {tg : Expr} {d : Addr} {o : Obj} {es : Array DictEntry} {ep : Nat} {vs : List V}
theorem turn_keysR (it : Addr) (hod : o.data = .dict es ep) (rv : Vals vs (es.toList.map (·.key))) : Turn P w K tg (ItR2 d o vs) [it] it (fun i h => h.IsKeyIter it d i vs.length ep) where
  mem := by simp
  obj := fun i h st b hb => by
    obtain rfl : b = it := by simpa using hb
    obtain ⟨oi, e, c, dd⟩ := st
    exact ⟨oi, e, fun v z => by rw [dd] at z; cases z⟩
  keep := fun i h h' st k => st.at fun oi e => k it (by simp) oi e
  item := by
    intro X hP hw hK hc i pins s σ H E I hf st hg
    subst hP hw hK
    obtain ⟨hd, hi⟩ := hg
    obtain ⟨f0, f1, f2, f3, f4, f5⟩ := hf it (by simp)
    have hl : vs.length = es.size := by have q := rv.length; simpa using q
    obtain ⟨u, hu, ru⟩ := rv.get (List.getElem?_eq_getElem hi)
    rw [List.getElem?_map, Array.getElem?_toList] at hu
    obtain ⟨en, hen, ek⟩ := Option.map_eq_some_iff.mp hu
    refine next_key_item st (frzN_at I hd) hod hl.symm hen fun h' st' sb => ?_
    have I1 : Inv X pins σ H { s with heap := h' } := I.turned (t' := s.toks) (fun b ob hb e => (sb.2 b hb).trans e) f0 f1 f3 f4 f5
    obtain ⟨oi, e, c, dd⟩ := id st'
    exact ⟨_, rfl, go_of (s := { s with heap := h' }) e c dd (by decide) ⟨vs[i], H, I1, by rw [ek]; exact ru, ⟨rfl, List.getElem?_eq_getElem hi⟩, st', fun b hb => (hf b hb).1⟩⟩
  done := by
    intro X hP hw hK hc i pins s σ H E I hf st hg
    subst hP hw hK
    obtain ⟨hd, hi⟩ := hg
    obtain ⟨f0, f1, f2, f3, f4, f5⟩ := hf it (by simp)
    have hl : vs.length = es.size := by have q := rv.length; simpa using q
    exact next_key_end (I.ok.hd hc) st (frzN_at I hd) hod hl.symm hi fun h' eb => ⟨rfl, I.turned (t' := s.toks) (fun b ob hb e => eb b ob hb e) f0 f1 f3 f4 f5⟩
  self := fun A i s Q E st h => wpAny_pyIter_keyiter st h
end
section
variable {X : Cx} {tg e : Expr} {me : ME}
def iKeysRt (td : TE) : TI := fun σ H R => td σ H fun x H1 => ∃ d o es ep, ∃ vs : List V, x = .ref d ∧ H1 d = some (.frz o (pinO d o)) ∧ (d == sysModules) = false ∧ o.ExactDict ∧ o.data = .dict es ep ∧ Vals vs (es.toList.map (·.key)) ∧ R (ItR2 d o vs) H1
theorem pi_keysR {td : TE} (he : PE X e td) : PI X tg e (iKeysRt td) := by
  refine ⟨fun pins s σ H R I h => ?_⟩
  refine thn (he.run pins s σ H _ I h) fun u s1 ⟨x, H1, I1, rx, d, o, es, ep, vs, ex, hd, hs, hx, hdt, rv, q⟩ => ?_
  subst ex
  obtain rfl : u = Value.ref d := rx
  refine iter_keys hs (frzN_at I1 hd) hx hdt (pi_one (tk := s1.toks) I1 _ (turn_keysR _ hdt rv) ⟨_, Heap.get?_push_size _ rfl, rfl, ?_⟩ q)
  have hl : vs.length = es.size := by have q := rv.length; simpa using q
  rw [hl] <;> rfl
theorem si_keysLR (he : SE X e me) : SI X tg e (iKeysLR me) := ⟨fun W tk => by
  refine PI.mono (pi_keysR (he.run W tk)) fun σ H Rk ⟨R, S, l, r, hl, h⟩ => ?_
  refine ⟨R, S, l, r, hl, (Out.bind h).imp fun d S1 R1 H1 x1 r1 q v hv => ?_⟩
  cases d <;> first | exact False.elim q | skip
  rename_i n
  obtain ⟨a, rfl, hn⟩ := hv.refv
  dsimp only at q
  cases q1 : S1[n]? with
  | none => simp only [q1] at q; exact False.elim q
  | some ob =>
    simp only [q1] at q
    cases ob <;> first | exact False.elim q | skip
    obtain ⟨o, es, ep, vs, h1, c1, c2, c3, c4, h2⟩ := r1.ob n a _ hn q1
    refine ⟨a, o, es, ep, vs, rfl, h1, c1, c2, c3, c4, Out.pure q r1 _ fun i R S H x r => ?_⟩
    have hh := x.frz a o _ h1
    cases z : S[n]? with
    | none => simp only [z]
    | some ob =>
      cases ob <;> first | (simp only [z]; done) | skip
      rename_i ks
      obtain ⟨o2, es2, ep2, vs2, g1, _, _, g4, g5, g2⟩ := r.ob n a _ (x.get hn) z
      rw [hh] at g1
      have eo : o = o2 := (HO.frz.inj (Option.some.inj g1)).1
      subst eo
      have e1 : es2 = es := (dict_ep c3 g4).1
      subst e1
      have e2 : vs2 = vs := Vals.inj g5 c4
      subst e2
      simp only [z]
      cases z2 : ks[i]? with
      | none => exact ⟨hh, by rw [← g2.length]; exact List.getElem?_eq_none_iff.mp z2⟩
      | some kv =>
        have hi : i < vs2.length := by rw [← g2.length]; exact (List.getElem?_eq_some_iff.mp z2).1
        refine ⟨⟨hh, hi⟩, fun u H' hy => ?_⟩
        obtain ⟨e3, e4⟩ := hy
        subst e3
        obtain ⟨p, hp, e6⟩ := g2.get z2
        rw [e4] at hp
        cases hp
        exact ⟨.refl, r, e6⟩⟩
end

/-! ### {None: v}, {(..): v} -/
def eOdd0 (k v : ME) : ME := fun l S => (k l (S ++ [.dK []])).bind fun d S1 => (v l S1).bind fun e S2 => match S2[S.length]?, d with
  | some (.dK []), .non => .ok (.ref S.length) (S2.set S.length (.raw [.non]))
  | _, _ => .bad
def eOdd1 (k v : ME) : ME := fun l S => (k l (S ++ [.dK []])).bind fun d S1 => (v l S1).bind fun e S2 => match S2[S.length]?, okKey d with
  | some (.dK []), some _ => .ok (.ref S.length) (S2.set S.length (.dN [(d, e)]))
  | _, _ => .bad
section
variable {X : Cx} {k v : Expr} {mk mv : ME} {pos : Pos}
theorem se_odd0 (hk : SE X k mk) (hv : SE X v mv) : SE X (.Dict [some k] [v] pos) (eOdd0 mk mv) := ⟨fun W tk => by
  refine ⟨fun pins s σ H Q I ⟨R, S, l, r, hl, q⟩ => ?_⟩
  have hn := I.hok.fresh (Nat.le_refl s.heap.objs.size)
  have I1 := I.laid (a := s.heap.objs.size) (o := .dK []) (h' := s.heap.push { cls := .type "dict", data := .dict #[] }) (t' := s.toks) (fun _ _ q => Heap.get?_push_of_some _ q) (Nat.le_refl _) (dk_empty s.heap I.big)
  generalize hp : s.heap.objs.size = p at hn I1
  have x1 : Ext R H (R ++ [p]) (upd H p (.dK [])) := Ext.push hn
  have r1 : RelX X (R ++ [p]) (S ++ [.dK []]) (upd H p (.dK [])) := r.push hn ⟨[], upd_same, .nil⟩
  have pps := pps_cons (pos := pos) (hk.run W tk) (hv.run W tk) (pps_nil (X := X) (pos := pos))
  have h2 : tPairs [(liftE X mk W, liftE X mv W)] σ (upd H p (.dK [])) fun ps H2 => ∃ y, ps = [(.non, y)] ∧ H2 p = some (.dK []) ∧ ∀ (o : Obj) es ep (vs : List V), (p == sysModules) = false → o.ExactDict → o.data = .dict es ep → es.toList.map (·.key) = [Value.none] → Q (.ref p) (upd H2 p (pinO p o)) := by
    refine ⟨R ++ [p], S ++ [.dK []], l, r1, hl.ext r x1, (Out.bind (Out.shift q x1 r1.some)).imp fun d S2 R2 H2 x2 r2 q x hx => ⟨R2, S2, l, r2, (hl.ext r x1).ext r1 x2, (Out.bind q).imp fun e S3 R3 H3 x3 r3 q y hy => ?_⟩⟩
    have hp3 : R3[S.length]? = some p := x3.get (x2.get (get_last r))
    cases q3 : S3[S.length]? with
    | none => simp only [q3] at q; exact False.elim q
    | some o =>
      simp only [q3] at q
      cases o <;> first | exact False.elim q | skip
      rename_i kk
      cases kk with
      | cons _ _ => exact False.elim q
      | nil =>
        cases d <;> first | exact False.elim q | skip
        cases hx
        obtain ⟨kk, g1, g2⟩ := r3.ob _ p _ hp3 q3
        cases g2
        refine ⟨y, rfl, g1, fun o es ep vs h1 h2 h3 h4 => ?_⟩
        have xx : Ext R3 H3 R3 (upd H3 p (pinO p o)) := Ext.write (List.mem_of_getElem? hp3) g1 rfl
        exact q R3 _ xx (r3.write hp3 g1 rfl ⟨o, es, ep, [.non], upd_same, h1, h2, h3, by rw [h4]; exact .cons rfl .nil, .cons .non .nil⟩) _ (.ref hp3)
  refine wpAny_Dict_walk (knd := leafKind X.prog X.w) rfl rfl (by simp) (by simp) ?_
  rw [hp]
  refine thn (pps.run pins _ σ _ _ I1 h2) fun ws s2 ⟨ps, H2, I2, rel, y, ep, hd, fin⟩ => ?_
  subst ep
  cases rel with
  | @cons a b as bs h t =>
    cases t
    obtain ⟨b1, b2⟩ := b
    obtain ⟨hr, _⟩ := h
    obtain rfl : b1 = Value.none := hr
    obtain ⟨hs, o, es, ep, ho, hx, hdt, hes, _, _⟩ := emptyD_at I2 hd
    have hes' : es.toList = [] := hes
    refine ⟨[(Leaf.none, b2)], ⟨rfl, rfl, True.intro⟩, ⟨o, es, ep, ho, hx, hdt, fun e he => ?_, by rw [hes']; exact .nil, .nil⟩, fun h' dd sb => ?_⟩
    · rw [← Array.mem_toList_iff, hes'] at he
      exact absurd he (by simp)
    · obtain ⟨o', es', ep', g1, g2, g3, g4, g5, _⟩ := dd
      have g5' : Pairs (leafKind X.prog X.w) es'.toList [(Leaf.none, b2)] := g5
      generalize hL : es'.toList = L at g5'
      cases g5' with
      | cons k1 k2 k3 =>
        cases k3
        rename_i en
        have ek : en.key = Value.none := by
          have k1' : Leaf.isOf .none en.key = true := k1
          cases z : en.key <;> rw [z] at k1' <;> first | rfl | cases k1'
        refine ⟨.ref p, _, I2.write (x := p) (e := p) (o := pinO p o') (t' := s2.toks + 1) (by rw [hd]; trivial) (.inl rfl) (fun b u hb q => (sb.2 b hb).trans q) ⟨o', g1⟩ ⟨g1, ⟨o', g1⟩, fun h1 h2 p k => k o' p⟩, rfl, fin o' es' ep' [] hs g2 g3 (by rw [hL]; simp [ek])⟩⟩
theorem se_odd1 (hu : X.A.units + 64 < cLine) (hk : SE X k mk) (hv : SE X v mv) : SE X (.Dict [some k] [v] pos) (eOdd1 mk mv) := ⟨fun W tk => by
  refine ⟨fun pins s σ H Q I ⟨R, S, l, r, hl, q⟩ => ?_⟩
  have hn := I.hok.fresh (Nat.le_refl s.heap.objs.size)
  have I1 := I.laid (a := s.heap.objs.size) (o := .dK []) (h' := s.heap.push { cls := .type "dict", data := .dict #[] }) (t' := s.toks) (fun _ _ q => Heap.get?_push_of_some _ q) (Nat.le_refl _) (dk_empty s.heap I.big)
  have x1 : Ext R H (R ++ [s.heap.objs.size]) (upd H s.heap.objs.size (.dK [])) := Ext.push hn
  have r1 : RelX X (R ++ [s.heap.objs.size]) (S ++ [.dK []]) (upd H s.heap.objs.size (.dK [])) := r.push hn ⟨[], upd_same, .nil⟩
  have pps := pps_cons (pos := pos) (hk.run W tk) (hv.run W tk) (pps_nil (X := X) (pos := pos))
  have h2 : tPairs [(liftE X mk W, liftE X mv W)] σ (upd H s.heap.objs.size (.dK [])) fun ps H2 => ∃ x y, ps = [(x, y)] ∧ H2 s.heap.objs.size = some (.dK []) ∧ ∀ pins s2 (kv vv : Value), Inv X pins σ H2 s2 → RelV x kv → RelV y vv →
      ∃ a nk, kv = .ref a ∧ (nestedKind X.prog X.w).is s2.heap nk a ∧ ∀ (o : Obj) es ep, (s.heap.objs.size == sysModules) = false → o.ExactDict → o.data = .dict es ep → es.toList = [entryOfKey (nestedKind X.prog X.w) (nk, a, vv)] → Q (.ref s.heap.objs.size) (upd H2 s.heap.objs.size (pinO s.heap.objs.size o)) := by
    refine ⟨R ++ [s.heap.objs.size], S ++ [.dK []], l, r1, hl.ext r x1, (Out.bind (Out.shift q x1 r1.some)).imp fun d S2 R2 H2 x2 r2 q x hx => ⟨R2, S2, l, r2, (hl.ext r x1).ext r1 x2, (Out.bind q).imp fun e S3 R3 H3 x3 r3 q y hy => ?_⟩⟩
    have hp3 : R3[S.length]? = some s.heap.objs.size := x3.get (x2.get (get_last r))
    cases q3 : S3[S.length]? with
    | none => simp only [q3] at q; exact False.elim q
    | some o =>
      simp only [q3] at q
      cases o <;> first | exact False.elim q | skip
      rename_i kk
      cases kk with
      | cons _ _ => exact False.elim q
      | nil =>
        cases q4 : okKey d with
        | none => simp only [q4] at q; exact False.elim q
        | some nk =>
          simp only [q4] at q
          obtain ⟨kk, g1, g2⟩ := r3.ob _ _ _ hp3 q3
          cases g2
          refine ⟨x, y, rfl, g1, fun pins s2 kv vv I2 rk rv => ?_⟩
          have hx3 := hx.ext r2 x3
          obtain ⟨a, rfl, rfl, hnk, hdp, hkk⟩ := okKey_at I2 hx3 rk q4
          refine ⟨a, nk, rfl, hkk, fun o es ep h1 h2 h3 h4 => ?_⟩
          have xx : Ext R3 H3 R3 (upd H3 s.heap.objs.size (pinO s.heap.objs.size o)) := Ext.write (List.mem_of_getElem? hp3) g1 rfl
          exact q R3 _ xx (r3.write hp3 g1 rfl ⟨o, es, ep, [(nk, a, vv)], upd_same, h1, h2, h3, h4, by simp, .cons ⟨hnk, hdp, hx3.ext r3 xx, y, hy.ext r3 xx, rv⟩ .nil⟩) _ (.ref hp3)
  rw [arm_eval_Dict, zip_pairTrees [some k] [v] X.env pos rfl rfl, dictDisplay_pairs (pairTrees [some k] [v] X.env pos) (fun z => nomatch (show 0 = 1 from by have q := pairTrees_length [some k] [v] X.env pos rfl rfl; rw [z] at q; exact q)) (by rw [pairTrees_length [some k] [v] X.env pos rfl rfl]; simp)]
  refine wpAny_bind (wpAny_standAt (wpAny_bind (wpAny_subDictH (knd := nestedKind X.prog X.w) (by show X.A.units + 8 < cLine; omega) (by rw [pairTrees_length [some k] [v] X.env pos rfl rfl]; simp) (thn (pps.run pins _ σ _ _ I1 h2) fun ws s2 ⟨ps, H2, I2, rel, x, y, ep, hd, fin⟩ => ?_))))
  subst ep
  cases rel with
  | @cons a b as bs h t =>
    cases t
    obtain ⟨b1, b2⟩ := b
    obtain ⟨hr1, hr2⟩ := h
    obtain ⟨a, nk, rfl, hkk, go⟩ := fin pins s2 b1 b2 I2 hr1 hr2
    obtain ⟨hs, hm⟩ := emptyD_at I2 hd
    refine ⟨[(nk, a, b2)], ⟨rfl, rfl, hkk, True.intro⟩, hm, fun h' tk dd sb => wpAny_pure ?_⟩
    obtain ⟨o', es', ep', g1, g2, g3, g4, g5, _⟩ := dd
    exact ⟨.ref s.heap.objs.size, _, I2.write (x := s.heap.objs.size) (e := s.heap.objs.size) (o := pinO s.heap.objs.size o') (t' := tk) (by rw [hd]; trivial) (.inl rfl) (fun b u hb q => (sb.2 b hb).trans q) ⟨o', g1⟩ ⟨g1, ⟨o', g1⟩, fun h1 h2 p k => k o' p⟩, rfl, go o' es' ep' hs g2 g3 g4⟩⟩
end
end SL
set_option Elab.async false
set_option linter.all false
set_option maxRecDepth 100000
namespace SL
open PySem PySem.Spec PyProof.Rows L2

/-! ### a def -/
def startD (n : Nat) (ds : List D) : Loc := ds.map some ++ List.replicate (n - ds.length) none
def fnM (n : Nat) (m : MS) : List D → Sto → Res D := fun ds S => (m (startD n ds) S).bind fun f S' => match f.1 with
  | .nx => .ok .non S'
  | .rt d => .ok d S'
  | _ => .bad
theorem start_rel {K : PySem.W.Frag} {R : List Addr} {H : Hp} {N : List Str} {ds : List D} {vs : List V} (h : DVs K R H ds vs) : LocR K R H (startD N.length ds) (L2.start N vs) := by
  have hl := h.length
  unfold startD L2.start
  refine ⟨by simp [hl], fun i d e => ?_⟩
  by_cases hi : i < ds.length
  · rw [List.getElem?_append_left (by rw [List.length_map]; exact hi), List.getElem?_map] at e
    rw [List.getElem?_append_left (by rw [List.length_map, ← hl]; exact hi), List.getElem?_map]
    cases z : ds[i]? with
    | none => rw [z] at e; cases e
    | some d' =>
      rw [z] at e
      cases e
      obtain ⟨v, k1, k2⟩ := h.get z
      exact ⟨v, by rw [k1]; rfl, k2⟩
  · rw [List.getElem?_append_right (by rw [List.length_map]; omega), List.getElem?_replicate] at e
    split at e <;> cases e
section
variable {P : Program} {w : World} {K : PySem.W.Frag} {mg : Str → Option Value} {base : Heap} {x qual : Str} {params : Arguments} {body : List Stmt} {scope : Scope} {dvs dv2 : List V} {kws : List (Str × V)} {f : Addr} {fd : FuncData} {N ps : List Str} {ds : List Value} {dds : List D} {k : Nat} {m : MS}
theorem fnA_of (F : FunD K x qual params body scope dvs kws f fd) (S : FnScope N ps scope) (hb : Binds K fd ps ds) (hd : Vals dv2 ds) (hdd : ∀ R H, DVs K R H dds dv2)
    (h : ∀ (cdv : Value) (A : Around) (outer : List Env) (s : Shared) (H : Hp) (E : XK), Room k (A.deeper (envOfC qual scope s.heap.objs.size f cdv)) → SSs (cxOf (L2.CX P w) P w K mg base N qual scope f cdv A outer s H E) body m) :
    FnA P w K mg base f ps dds (k + 1) (fnM N.length m) := by
  refine ⟨⟨fd, ds, dv2, ?_, hb, hd, hdd⟩, F.kp⟩
  refine F.ok S (fun vs H Q E h => h.1) fun cdv A outer s H vs Q E hr hsp => ?_
  have tk : Takes (cxOf (L2.CX P w) P w K mg base N qual scope f cdv A outer s H E) fun cls d _ H' => E cls d H' := takes_of rfl rfl rfl rfl
  refine ⟨_, (h cdv A outer s H E hr).run _ tk, ?_⟩
  obtain ⟨hl, R, S0, ds0, r, hds, q⟩ := hsp
  refine ⟨R, S0, startD N.length ds0, r, start_rel hds, ?_⟩
  have q2 := Out.bind (X := cxOf (L2.CX P w) P w K mg base N qual scope f cdv A outer s H E) (W := E) q
  refine q2.impW (fun fl S1 R1 H1 x1 r1 q3 σ' _ => ?_) fun c d H' z σ' => z
  obtain ⟨fl, l'⟩ := fl
  cases fl with
  | nx => exact Out.pure q3 r1 _ .non
  | bk => exact False.elim q3
  | ct => exact False.elim q3
  | rt d => exact fun v hv => Out.pure q3 r1 v hv
end

/-! ### what is never come to -/
def eNever : ME := fun _ _ => .bad
def sNever : MS := fun _ _ => .bad
section
variable {X : Cx}
theorem se_never {e : Expr} : SE X e eNever := ⟨fun W tk => ⟨fun pins s σ H Q I ⟨R, S, l, r, hl, h⟩ => False.elim h⟩⟩
theorem ss_never {st : Stmt} : SS X st sNever := ⟨fun W tk => ⟨fun pins s σ H Dn I ⟨R, S, l, r, hl, h⟩ => False.elim h⟩⟩
theorem sss_never {st : List Stmt} : SSs X st sNever := ⟨fun W tk => ⟨fun pins s σ H Dn I ⟨R, S, l, r, hl, h⟩ => False.elim h⟩⟩
end

/-! ### raise -/
/-- C's own __init__(self, x): the base's, then self.f = x -/
def spInit (C : Addr) (f : Str) : Sp := fun vs H Q _ => ∃ a v, vs = [.ref a, v] ∧ H a = some (exo a C none) ∧ ∀ dx, H dx = none → dx ≠ a → Q .non (upd (upd H dx (exd dx [(f, v)])) a (exo a C (some dx)))
structure ExA (P : Program) (w : World) (K : PySem.W.Frag) (mg : Str → Option Value) (base : Heap) (C f : Str) (k : Nat) : Prop where
  T : OexC K (He.ga K C)
  ex : ∃ fI fd ps, PySem.W.findIn K (.ref (He.ga K C)) "__init__" = some (some (.ref fI)) ∧ PySem.W.typeIn K (.ref fI) = some (.type "function") ∧ FnOk P w K mg base (L2.CX P w) k fI fd ps (spInit (He.ga K C) f) ∧ Binds K fd ps []
section
variable {X : Cx} {pos p : Pos} {e : Expr} {C f : Str} {me : ME} {k j : Nat}
theorem ss_raise (F : ExA X.prog X.w X.K X.mg X.base C f j) (hc : X.calm = true) (hr : Room k X.A) (hg : Gl X C) (hm : X.mg C = some (.ref (He.ga X.K C))) (he : SE X e me) (hj : j + 1 ≤ k := by decide) (hdb : (C == ("__debug__" : Str)) = false := by decide)
    (hp : Passes (L2.CX X.prog X.w) X (fun _ _ _ => False) := by exact passL)
    (hst : starEach [e] X.env = (false, eval e X.env) :: starEach [] X.env := by rfl) (hpl : (backTo pos (starEach [] X.env)).any (·.1) = false := by rfl) {pos2 : Pos} :
    SS X (.Raise (some (.Call (.Name C p) [e] [] pos)) none pos2) (sRaise C f me) := ⟨fun W tk => by
  obtain ⟨fI, fd, ps, iC, tI, F1, hb⟩ := F.ex
  have pm := pmk_oex (X := X) (p := p) (pos := pos) F.T iC tI F1 (hr.mono hj) hb .nil hp hg hm ((sa_cons he sa_nil hst).run W tk) hdb hst hpl
  refine PS.mono (ps_raise hc tk pm) fun Dn σ H ⟨R, S, l, r, hl, h⟩ => ?_
  refine ⟨R, S, l, r, hl, ?_⟩
  have h1 := (Out.bind h)
  have h2 : Out X (me l S) R H (fun c d H' => ∀ σ' : L2.St, W c d σ' H') (fun d S1 R1 H1 => ∀ R' H' dx, Ext R1 H1 R' H' → RelX X R' S1 H' → XdR X.K R' H' [(f, d)] dx → ∀ σ' : L2.St, W (.ref (He.ga X.K C)) dx σ' H') := h1
  have go : Out X (aCons me aNil l S) R H (fun c d H' => W c d σ H') fun ds _ R' H' => ∀ vs, DVs X.K R' H' ds vs → (vs.length ≤ 1000 ∧ ∀ a, H' a = none → spInit (He.ga X.K C) f (.ref a :: (vs ++ [])) (upd H' a (exo a (He.ga X.K C) none))
      (fun v H2 => v = .non ∧ ∃ (d : Addr) (fs : List (Str × V)), H2 a = some (exo a (He.ga X.K C) (some d)) ∧ H2 d = some (exd d fs) ∧ H' d = none ∧ W (.ref (He.ga X.K C)) (some d) σ (upd (del H2 a) d (.xd fs))) (fun _ _ _ => False)) := by
    unfold aCons
    have e1 : ((me l S).bind fun d S1 => (aNil l S1).bind fun ds S2 => Res.ok (d :: ds) S2) = (me l S).bind fun d S1 => Res.ok [d] S1 := rfl
    rw [e1]
    cases z : me l S with
    | bad => rw [z] at h2; exact False.elim h2
    | err c fs S1 => rw [z] at h2; exact fun R' H' dx x1 r1 q => h2 R' H' dx x1 r1 q σ
    | ok d S1 =>
      rw [z] at h2
      intro R1 H1 x1 r1 vs hvs
      obtain ⟨v, rfl, hv⟩ := hvs.one
      refine ⟨by simp, fun a ha => ⟨a, v, rfl, upd_same, fun dx hdx ne => ⟨rfl, dx, [(f, v)], upd_same, ?_, ?_, ?_⟩⟩⟩
      · rw [upd_ne ne, upd_same]
      · rw [upd_ne ne] at hdx; exact hdx
      · rw [upd_ne ne] at hdx
        have eH : upd (del (upd (upd (upd H1 a (exo a (He.ga X.K C) none)) dx (exd dx [(f, v)])) a (exo a (He.ga X.K C) (some dx))) a) dx (.xd [(f, v)]) = upd H1 dx (.xd [(f, v)]) := by
          funext b
          unfold upd L2.del
          by_cases hb : b = dx
          · rw [if_pos hb, if_pos hb]
          · by_cases hba : b = a
            · subst hba
              rw [if_neg hb, if_pos rfl, if_neg hb, ha]
            · simp only [if_neg hb, if_neg hba]
        rw [eH]
        exact h2 R1 H1 x1 r1 R1 _ (some dx) (.fresh hdx) (r1.fresh hdx) (.inr ⟨dx, [(f, v)], rfl, upd_same, .cons ⟨rfl, hv.ext r1 (.fresh hdx)⟩ .nil⟩) σ
  exact go⟩
end
end SL
set_option Elab.async false
set_option linter.all false
set_option maxRecDepth 100000
namespace SL
open PySem PySem.Spec PyProof.Rows L2

/-! ### an own exception's __init__, over an own base's -/
structure WeOk (K : PySem.W.Frag) (B : Str) : Prop where
  ga : PySem.W.specialIn K (.ref (He.ga K B)) "__getattribute__" = some (some (.builtin "type.__getattribute__"))
  rd : PySem.W.readsIn K (He.ga K B) (.type "type") = true
  iv : PySem.W.findCls K (.ref (He.ga K B)) (.type "type") "__init__" = some (.val (.builtin "ValueError.__init__"))
section
variable {X : Cx} {e : Expr} {es : List Expr} {ta : TA} {B : Str} {p1 p2 pos : Pos}
theorem pe_weinit {pl : Sem Bool} (hg : Gl X B) (hm : X.mg B = some (.ref (He.ga X.K B))) (V : WeOk X.K B) (ha : PA X (e :: es) ta) (hdb : (B == ("__debug__" : Str)) = false := by decide)
    (hc : eval (.Call (.Attribute (.Name B p1) "__init__" p2) (e :: es) [] pos) X.env = (do
      let ov ← eval (.Name B p1) X.env
      standAt p2.atName
      let (f, first) ← holding [ov] (getMethod ov "__init__" pl)
      callWith pos f first (backTo pos (starEach (e :: es) X.env)) (backToKw pos (keywordEach [] X.env))) := by rfl)
    (he : starEach (e :: es) X.env = (false, eval e X.env) :: starEach es X.env := by rfl) (hpl : (backTo pos (starEach es X.env)).any (·.1) = false := by rfl) :
    PE X (.Call (.Attribute (.Name B p1) "__init__" p2) (e :: es) [] pos) (tVeI X.K ta) := by
  refine ⟨fun pins s σ H Q I h => ?_⟩
  refine PySem.W.methodCall_KW (ld_glob I hg hm ?_ hdb) hc
  refine PySem.W.method_cls I.kIn V.ga (PySem.W.cls_value I.kIn V.rd V.iv (by decide +kernel) ?_)
  show wpAny _ _ (callWith pos (Value.builtin "ValueError.__init__") [] (backTo pos (starEach (e :: es) X.env)) []) _ _ _
  refine PyProof.Rows.callWith_method1 (thn (ha.run pos pins _ σ H _ (I.tok _) h) fun us s1 ⟨vs, H1, I1, r1, a, C, ws, ev, hl, T, ea, q⟩ => ?_) he hpl
  subst ev
  cases r1 with
  | @cons _ u0 _ ur ra rw' =>
    obtain rfl : u0 = Value.ref a := ra
    exact oinit_ok T I1 ea (by rw [← Paired.length rw', sizeLine_eq]; omega) fun s' J => ⟨.non, H1, J, rfl, q⟩
end
section
variable {P : Program} {w : World} {K : PySem.W.Frag} {mg : Str → Option Value} {base : Heap} {name qual C f : Str} {t : Str} {N ps : List Str} {params : Arguments} {body : List Stmt} {scope : Scope} {dvs : List V} {kws : List (Str × V)} {fI : Addr} {fd : FuncData}
theorem exA_of (F : FunD K name qual params body scope dvs kws fI fd) (S : FnScope N ps scope) (hN : N.length = 2) (hps : ps.length = 2) (hb : Binds K fd ps [])
    (T : OexC K (He.ga K C)) (iC : PySem.W.findIn K (.ref (He.ga K C)) "__init__" = some (some (.ref fI))) (tI : PySem.W.typeIn K (.ref fI) = some (.type "function")) (hno : PySem.W.findIn K (.ref (He.ga K C)) f = some none)
    (h : ∀ (cdv : Value) (A : Around) (outer : List Env) (s : Shared) (H : Hp) (E : XK), PSs (cxOf (L2.CX P w) P w K mg base N qual scope fI cdv A outer s H E) body (tSeq (tDrop (tVeI K (tCons (tVar 0) (tCons (L2.tC (.str t)) tNil)))) (tOst K f (tVar 0) (tVar 1)))) : ExA P w K mg base C f 1 := by
  refine ⟨T, fI, fd, ps, iC, tI, ?_, hb⟩
  refine F.ok S (fun vs H Q E ⟨a, v, e, _⟩ => by rw [e, hps]; rfl) fun cdv A outer s H vs Q E hr ⟨a, v, e, ha, q⟩ => ?_
  subst e
  refine ⟨_, h cdv A outer s H E, ?_⟩
  have e0 : (L2.start N [.ref a, v])[0]? = some (some (.ref a)) := by unfold L2.start; rfl
  have e1 : (L2.start N [.ref a, v])[1]? = some (some v) := by unfold L2.start; rfl
  refine ⟨.ref a, e0, a, He.ga K C, [.str t], rfl, by simp, T, ha, ?_⟩
  exact ⟨v, e1, .ref a, e0, a, He.ga K C, rfl, T, hno, .inl ⟨ha, fun dx hdx ne => q dx hdx ne⟩⟩
end
end SL
set_option Elab.async false
set_option linter.all false
set_option maxRecDepth 100000
namespace SL
open PySem PySem.Spec PyProof.Rows L2

/-! ### what the module's names stand for, once for all -/
mutual
theorem dvB_ok {K : PySem.W.Frag} : ∀ {d : D} {u : Value}, dvB K d u = true → ∃ v, RelV v u ∧ ∀ R H, DV K R H d v
  | .non, u, h => by
    cases u <;> first | (unfold dvB at h; cases h; done) | skip
    exact ⟨.non, rfl, fun _ _ => .non⟩
  | .bl b, u, h => by
    cases u <;> first | (unfold dvB at h; cases h; done) | skip
    rename_i c
    have e : b = c := by unfold dvB at h; exact eq_of_beq h
    exact ⟨.bl b, by rw [e]; rfl, fun _ _ => .bl b⟩
  | .int i, u, h => by
    cases u <;> first | (unfold dvB at h; cases h; done) | skip
    rename_i j t
    have e : i = j := by unfold dvB at h; exact of_decide_eq_true h
    exact ⟨.int i, ⟨t, by rw [e]⟩, fun _ _ => .int i⟩
  | .str i, u, h => by
    cases u <;> first | (unfold dvB at h; cases h; done) | skip
    rename_i j t
    have e : i = j := by unfold dvB at h; exact of_decide_eq_true h
    exact ⟨.str i, ⟨t, by rw [e]⟩, fun _ _ => .str i⟩
  | .ty i, u, h => by
    cases u <;> first | (unfold dvB at h; cases h; done) | skip
    rename_i j
    have e : i = j := by unfold dvB at h; exact of_decide_eq_true h
    exact ⟨.ty i, by rw [e]; rfl, fun _ _ => .ty i⟩
  | .gl x, u, h => by
    cases u <;> first | (unfold dvB at h; cases h; done) | skip
    rename_i a
    have e : a = He.ga K x := by unfold dvB at h; exact of_decide_eq_true h
    exact ⟨.ref a, rfl, fun R H => by rw [e]; exact .gl x⟩
  | .ref n, u, h => by cases u <;> (unfold dvB at h; cases h)
  | .tup ds, u, h => by
    cases u <;> first | (unfold dvB at h; cases h; done) | skip
    rename_i a
    unfold dvB at h
    cases q : K.lookup a with
    | none => rw [q] at h; cases h
    | some o =>
      obtain ⟨oc, od, dt, osl⟩ := o
      rw [q] at h
      cases oc with
      | type c =>
        cases dt with
        | seq its n =>
          simp only [Bool.and_eq_true, decide_eq_true_eq] at h
          obtain ⟨h1, h2, h3⟩ := h
          obtain ⟨vs, k1, k2⟩ := dvsB_ok h3
          exact ⟨.ref a, rfl, fun R H => .tup (.inr ⟨_, its, n, q, congrArg Value.type h1, rfl, h2, k1⟩) (k2 R H)⟩
        | _ => cases h
      | _ => cases dt <;> cases h
theorem dvsB_ok {K : PySem.W.Frag} : ∀ {ds : List D} {us : List Value}, dvsB K ds us = true → ∃ vs, Vals vs us ∧ ∀ R H, DVs K R H ds vs
  | [], [], h => ⟨[], .nil, fun _ _ => .nil⟩
  | [], _ :: _, h => by unfold dvsB at h; cases h
  | _ :: _, [], h => by unfold dvsB at h; cases h
  | d :: ds, u :: us, h => by
    unfold dvsB at h
    obtain ⟨h1, h2⟩ := Bool.and_eq_true_iff.mp h
    obtain ⟨v, k1, k2⟩ := dvB_ok h1
    obtain ⟨vs, k3, k4⟩ := dvsB_ok h2
    exact ⟨v :: vs, .cons k1 k3, fun R H => .cons (k2 R H) (k4 R H)⟩
end
/-- the module's name x is that datum -/
def GlD (X : Cx) (x : Str) (d : D) : Prop := ∃ u, X.mg x = some u ∧ dvB X.K d u = true
theorem se_glD {X : Cx} {x : Str} {d : D} {pos : Pos} (hg : Gl X x) (h : GlD X x d) (hdb : (x == ("__debug__" : Str)) = false := by decide) : SE X (.Name x pos) (eC d) := by
  obtain ⟨u, hm, hb⟩ := h
  obtain ⟨v, r, k⟩ := dvB_ok hb
  exact se_const (pe_glob hg hm r hdb) k

/-! ### dicts of the module, with keys that are texts -/
structure KTab (K : PySem.W.Frag) (w : World) (x : Str) (kvs : List (Str × D)) : Prop where
  kd : ∃ es n, KDict K w (He.ga K x) es n
  hit : ∀ k d, kvs.lookup k = some d → ∃ u, PySem.W.nsIn K (He.ga K x) k = some (some u) ∧ dvB K d u = true
  miss : ∀ k, kvs.lookup k = none → PySem.W.nsIn K (He.ga K x) k = some none
theorem lookup_mem2 {k : Str} {d : D} : ∀ {kvs : List (Str × D)}, kvs.lookup k = some d → (k, d) ∈ kvs
  | [], h => by cases h
  | (b, u) :: r, h => by
    simp only [List.lookup] at h
    cases q : (k == b) with
    | true =>
      rw [q] at h
      cases h
      rw [beq_iff_eq.mp q]
      exact List.mem_cons_self
    | false =>
      rw [q] at h
      exact List.mem_cons_of_mem _ (lookup_mem2 h)
theorem lookup_none2 {k : Str} : ∀ {kvs : List (Str × D)}, kvs.lookup k = none → k ∉ kvs.map (·.1)
  | [], _ => by simp
  | (b, u) :: r, h => by
    simp only [List.lookup] at h
    cases q : (k == b) with
    | true => rw [q] at h; cases h
    | false =>
      rw [q] at h
      intro z
      rcases List.mem_cons.mp z with e | e
      · have e' : k = b := e
        rw [e'] at q
        simp at q
      · exact lookup_none2 h e
theorem ktab_of {K : PySem.W.Frag} {w : World} {x : Str} {kvs : List (Str × D)} (h1 : He.dicW K (He.ga K x) = some (He.keysIn w.params (kvs.map (·.1)))) (h2 : tabB K x kvs = true) : KTab K w x kvs := by
  refine ⟨He.dicW_ok h1, fun k d hk => ?_, fun k hk => ?_⟩
  · have q := List.all_eq_true.mp h2 (k, d) (lookup_mem2 hk)
    simp only at q
    cases e : PySem.W.nsIn K (He.ga K x) k with
    | none => rw [e] at q; cases q
    | some r =>
      rw [e] at q
      cases r with
      | none => cases q
      | some u => exact ⟨u, rfl, q⟩
  · have nk := lookup_none2 hk
    unfold He.dicW at h1
    unfold PySem.W.nsIn
    cases q : K.lookup (He.ga K x) with
    | none => rw [q] at h1; cases h1
    | some o =>
      obtain ⟨oc, od, dt, osl⟩ := o
      rw [q] at h1
      cases oc with
      | type c =>
        cases od with
        | some _ => cases dt <;> cases h1
        | none =>
          cases dt with
          | dict es n =>
            simp only at h1 ⊢
            split at h1
            · have e := Option.some.inj h1
              generalize kvs.map (·.1) = ks at e nk
              generalize es.toList = l at e
              have key : ∀ {l : List DictEntry} {ks : List Str}, l.map He.keyOf = He.keysIn w.params ks → k ∉ ks → l.find? (·.key.isStr k) = none ∧ l.any (·.refKey) = false := by
                intro l
                induction l with
                | nil => intro ks _ _; exact ⟨rfl, rfl⟩
                | cons en l ih =>
                  intro ks e nk
                  cases ks with
                  | nil => cases e
                  | cons a ks =>
                    have e' : He.keyOf en :: l.map He.keyOf = some (a, PyData.keyHash w.params a) :: He.keysIn w.params ks := e
                    injection e' with e1 e2
                    obtain ⟨i1, i2⟩ := ih e2 fun z => nk (List.mem_cons_of_mem _ z)
                    obtain ⟨eh, ek, ev⟩ := en
                    cases ek with
                    | str y t =>
                      have ey : y = a := (Prod.mk.inj (Option.some.inj e1)).1
                      have ny : y ≠ k := fun z => nk (by rw [← z, ey]; exact List.mem_cons_self)
                      have f1 : (Value.str y t).isStr k = false := beq_eq_false_iff_ne.mpr ny
                      refine ⟨?_, ?_⟩
                      · rw [List.find?_cons]
                        simp only [f1]
                        exact i1
                      · rw [List.any_cons, i2]
                        rfl
                    | _ => cases e1
              obtain ⟨k1, k2⟩ := key e nk
              rw [k1, k2]
              rfl
            · cases h1
          | _ => cases h1
      | _ => cases od <;> cases dt <;> cases h1
def oInG (x : Str) (kvs : List (Str × D)) (neg : Bool) : Op2 := fun e d S => match d, e with
  | .gl y, .str k => if y = x then some (.bl (if neg then !(kvs.lookup k).isSome else (kvs.lookup k).isSome), S) else none
  | _, _ => none
def oIxG (x : Str) (kvs : List (Str × D)) : Op2 := fun d e S => match d, e with
  | .gl y, .str k => if y = x then (kvs.lookup k).map fun z => (z, S) else none
  | _, _ => none
def eGetG (kvs : List (Str × D)) (a b : ME) : ME := fun l S => (a l S).bind fun d S1 => (b l S1).bind fun e S2 => match d with
  | .str k => .ok ((kvs.lookup k).getD e) S2
  | _ => .bad
section
variable {X : Cx} {x : Str} {kvs : List (Str × D)}
theorem DV.glv {K : PySem.W.Frag} {R : List Addr} {H : Hp} {y : Str} {v : V} (h : DV K R H (.gl y) v) : v = .ref (He.ga K y) := by cases h; rfl
theorem ns_some (T : KTab X.K X.w x kvs) (k : Str) : ∃ r, PySem.W.nsIn X.K (He.ga X.K x) k = some r ∧ r.isSome = (kvs.lookup k).isSome := by
  cases e : kvs.lookup k with
  | none => exact ⟨none, T.miss k e, rfl⟩
  | some d => obtain ⟨u, h, _⟩ := T.hit k d e; exact ⟨some u, h, rfl⟩
theorem s_inG (T : KTab X.K X.w x kvs) : OpR X (compareOp .In) (liftO2 X (oInG x kvs false)) := by
  obtain ⟨es, n, kd⟩ := T.kd
  refine OpR.mono (op_in_kd kd) fun a b H Q ⟨R, S, e, d, r, he, hd, q⟩ => ?_
  cases d <;> cases e <;> first | exact False.elim q | skip
  rename_i y k
  unfold oInG at q
  by_cases z : y = x
  · subst z
    simp only [if_true] at q
    obtain ⟨rr, h1, h2⟩ := ns_some T k
    exact ⟨k, rr, he.strv, hd.glv, h1, by rw [h2]; exact OutO.pure q r _ (.bl _)⟩
  · simp only [if_neg z] at q; exact False.elim q
theorem s_notInG (T : KTab X.K X.w x kvs) : OpR X (compareOp .NotIn) (liftO2 X (oInG x kvs true)) := by
  obtain ⟨es, n, kd⟩ := T.kd
  refine OpR.mono (op_notIn_kd kd) fun a b H Q ⟨R, S, e, d, r, he, hd, q⟩ => ?_
  cases d <;> cases e <;> first | exact False.elim q | skip
  rename_i y k
  unfold oInG at q
  by_cases z : y = x
  · subst z
    simp only [if_true] at q
    obtain ⟨rr, h1, h2⟩ := ns_some T k
    exact ⟨k, rr, he.strv, hd.glv, h1, by rw [h2]; exact OutO.pure q r _ (.bl _)⟩
  · simp only [if_neg z] at q; exact False.elim q
theorem s_ixG (T : KTab X.K X.w x kvs) : IxR X (liftO2 X (oIxG x kvs)) := fun va sl pins s σ H a b v u Q I rx ry h hs => by
  obtain ⟨es, n, kd⟩ := T.kd
  obtain ⟨R, S, d, e, r, hd, he, q⟩ := h
  cases d <;> cases e <;> first | exact False.elim q | skip
  rename_i y k
  unfold oIxG at q
  by_cases z : y = x
  · subst z
    simp only [if_true] at q
    cases e1 : kvs.lookup k with
    | none => simp only [e1] at q; exact False.elim q
    | some d =>
      simp only [e1] at q
      obtain ⟨u0, h1, h2⟩ := T.hit k d e1
      obtain ⟨v0, h3, h4⟩ := dvB_ok h2
      have ea := hd.glv
      have eb := he.strv
      subst ea; subst eb
      obtain rfl : v = Value.ref (He.ga X.K y) := rx
      exact sub_dict (kd_type kd I) hs (op_item_kd kd pins s σ H (.ref (He.ga X.K y)) (.str k) _ u Q I rfl ry ⟨k, u0, v0, rfl, rfl, h1, h3, OutO.pure q r _ (h4 _ _)⟩)
  · simp only [if_neg z] at q; exact False.elim q
/-- T.get(k, d) -/
theorem se_getG {e f : Expr} {me mf : ME} {p apos cpos : Pos} (T : KTab X.K X.w x kvs) (hg : Gl X x) (hm : X.mg x = some (.ref (He.ga X.K x))) (he : SE X e me) (hf : SE X f mf) (m : M2 X (.Name x p) "get" apos e f cpos) (hdb : (x == ("__debug__" : Str)) = false := by decide) :
    SE X (.Call (.Attribute (.Name x p) "get" apos) [e, f] [] cpos) (eGetG kvs me mf) := ⟨fun W tk => by
  obtain ⟨es, n, kd⟩ := T.kd
  refine ⟨fun pins s σ H Q I h => ?_⟩
  have mo := PySem.W.mapOf_K (prog := X.prog) (w := X.w) I.kIn kd.at_ kd.lit
  have h2 := two (T := fun a b H' => ∃ k : Str, a = .str k ∧ ∀ u, RelV b u → ∃ v, RelV v (((PySem.W.nsIn X.K (He.ga X.K x) k).getD none).getD u) ∧ Q v H') (f := fun _ d e S2 => match d with
    | .str k => .ok ((kvs.lookup k).getD e) S2
    | _ => .bad) h fun R S l d e v u H' r hl hd he q => by
      cases d <;> first | exact False.elim q | skip
      rename_i k
      refine ⟨k, hd.strv, fun u0 ru => ?_⟩
      have q2 := Out.pure q r
      cases e1 : kvs.lookup k with
      | none => rw [T.miss k e1]; rw [e1] at q2; exact ⟨u, ru, q2 u he⟩
      | some d =>
        obtain ⟨u1, h1, h2⟩ := T.hit k d e1
        obtain ⟨v0, h3, h4⟩ := dvB_ok h2
        rw [h1]
        rw [e1] at q2
        exact ⟨v0, h3, q2 v0 (h4 _ _)⟩
  refine wpAny_Call_method m.base m.few m.line PySem.F.plainAttrs_dict PySem.F.slot_dict_get PySem.F.type_dict_get (ld_glob I hg hm ?_ hdb)
  refine ⟨mo.typeIs, mo.noDict, ?_⟩
  rw [m.trees]
  refine Calls.callWith_builtin rfl (Calls.evalArgs_plain (Calls.spliced_cons (thn ((he.run W tk).run pins s σ H _ I h2) fun kv s1 ⟨y, H1, I1, ry, q1⟩ =>
    Calls.spliced_cons (thn ((hf.run W tk).run pins s1 σ H1 _ I1 q1) fun fv s2 ⟨z, H2, I2, rz, k, ek, q2⟩ => Calls.spliced_nil ?_))))
  subst ek
  obtain ⟨t, rfl⟩ := ry
  obtain ⟨v, rv, q3⟩ := q2 fv rz
  have mo2 := PySem.W.mapOf_K (prog := X.prog) (w := X.w) I2.kIn kd.at_ kd.lit
  obtain ⟨r0, hn, _⟩ := ns_some T k
  rw [hn] at rv
  refine call_meetsIn PySem.F.slot_dict_get mo2.typeIs PySem.F.entry_dict_get (PySem.F.args_dict_get_3 _ _ _) (meets_dict_get_default (strKind X.prog X.w) (He.ga X.K x) (PySem.strKind_is X.prog X.w k t) kd.low fv) ⟨_, mo2, ?_⟩
  rw [PySem.W.find_K kd.at_ hn]
  exact ⟨v, H2, I2.tok _, rv, q3⟩⟩
end
end SL
set_option Elab.async false
set_option linter.all false
set_option maxRecDepth 100000
namespace SL
open PySem PySem.Spec PyProof.Rows L2

/-! ### t == () -/
def oEmpT (neg : Bool) : Op2 := fun d e S => match d, e with
  | .tup ds, .tup [] => some (.bl (if neg then !ds.isEmpty else ds.isEmpty), S)
  | _, _ => none
section
variable {X : Cx}
theorem empT_run {neg : Bool} {x y : V} {H : Hp} {Q : VK} (h : liftO2 X (oEmpT neg) x y H Q) : ∃ a b vs, x = .ref a ∧ y = .ref b ∧ SqT X.K H a vs ∧ SqT X.K H b [] ∧ Q (.bl (if neg then !vs.isEmpty else vs.isEmpty)) H := by
  obtain ⟨R, S, d, e, r, hd, he, q⟩ := h
  cases d <;> cases e <;> first | exact False.elim q | skip
  rename_i ds es
  cases es with
  | cons _ _ => exact False.elim q
  | nil =>
    obtain ⟨a, vs, rfl, s1, t1⟩ := hd.tupv
    obtain ⟨b, us, rfl, s2, t2⟩ := he.tupv
    cases t2
    refine ⟨a, b, vs, rfl, rfl, s1, s2, ?_⟩
    have e : ds.isEmpty = vs.isEmpty := by cases t1 <;> rfl
    rw [← e]
    exact OutO.pure q r _ (.bl _)
theorem s_empT (hu : X.A.units < cLine) : OpR X (compareOp .Eq) (liftO2 X (oEmpT false)) := fun pins s σ H x y v u Q I rx ry h => by
  obtain ⟨a, b, vs, rfl, rfl, h1, h2, q⟩ := empT_run h
  cases rx; cases ry
  obtain ⟨its, rv, hl, _⟩ := I.tuple h1
  obtain ⟨its2, rv2, hl2, _⟩ := I.tuple h2
  cases rv2
  refine SeqAt.eq_tupleAt (e := fun _ => true) (show s.heap.IsTuple a its.toArray from hl) (show s.heap.IsTuple b #[] from hl2) hu (fun j _ h2 => absurd h2 (by simp)) ?_
  cases rv with
  | nil => exact ⟨.bl true, H, I, rfl, q⟩
  | cons a b => exact ⟨.bl false, H, I, rfl, q⟩
end

/-! ### list(e); e.f[..] of either; a, b, c = .. -/
def oListOf : OpN := fun ds S => match ds with
  | [d] => (itemsOf d S).map fun es => (.ref S.length, S ++ [.lst es])
  | _ => none
def altOS (f g : OpS) : OpS := fun d i j S => match f d i j S with
  | none => g d i j S
  | x => x
def sPar3 (i j k : Nat) (a : MA) : MS := fun l S => (a l S).bind fun ds S1 => match ds with
  | [d, e, f] => .ok (.nx, ((l.set i (some d)).set j (some e)).set k (some f)) S1
  | _ => .bad
section
variable {X : Cx}
theorem s_listOf : CallR X (.type "list") (liftON X oListOf) := by
  refine callR1 call_list_of (fun _ _ => .inr trivial) (fun ds S hn => no1 hn rfl fun d e r => rfl) fun R S H d v Q r a q => ?_
  unfold oListOf at q
  cases q1 : itemsOf d S with
  | none => simp only [q1] at q; exact False.elim q
  | some es =>
    simp only [q1] at q
    obtain ⟨p, ys, rfl, e2, e3⟩ := itemsOf_at r a q1
    exact ⟨p, ys, rfl, e2, fun l hl => q _ _ (Ext.push hl) (r.push hl ⟨_, upd_same, e3.ext r (Ext.push hl)⟩) _ (.ref (get_last r))⟩
theorem SlR.alt {f g : OpS} (hf : SlR X (liftOS X f)) (hg : SlR X (liftOS X g)) : SlR X (liftOS X (altOS f g)) := fun pins s σ H x v vl vu lo hi sl Q I rx hs pl pu h => by
  obtain ⟨R, S, d, r, hd, q⟩ := h
  unfold altOS at q
  cases z : f d lo hi S with
  | none => rw [z] at q; exact hg pins s σ H x v vl vu lo hi sl Q I rx hs pl pu ⟨R, S, d, r, hd, q⟩
  | some p => rw [z] at q; exact hf pins s σ H x v vl vu lo hi sl Q I rx hs pl pu ⟨R, S, d, r, hd, by rw [z]; exact q⟩
theorem ss_par3 {i j k : Nat} {x y z : Str} {a b c : Expr} {mA : MA} {px py pz pt pos : Pos} {kt k2 pt2} (hc : X.calm = true) (hN : X.N.Nodup) (hi : X.N[i]? = some x) (hj : X.N[j]? = some y) (hk : X.N[k]? = some z) (hij : i ≠ j) (hil : i ≠ k) (hjl : j ≠ k)
    (hx : X.env.scope.names.lookup x = some .local) (hy : X.env.scope.names.lookup y = some .local) (hz : X.env.scope.names.lookup z = some .local) (ha : SA X [a, b, c] mA)
    (hw : swappedStores [.Tuple [.Name x px, .Name y py, .Name z pz] kt pt] (.Tuple [a, b, c] k2 pt2) X.env = pure (some [x, y, z]))
    (hs : swapsWithSole [.Tuple [.Name x px, .Name y py, .Name z pz] kt pt] (.Tuple [a, b, c] k2 pt2) pos.line X.env = pure false := by rfl) :
    SS X (.Assign [.Tuple [.Name x px, .Name y py, .Name z pz] kt pt] (.Tuple [a, b, c] k2 pt2) pos) (sPar3 i j k mA) := ⟨fun W tk => by
  refine PS.mono (ps_par3 hc hN hi hj hk hij hil hjl hx hy hz (ha.run W tk) hw hs) fun Dn σ H ⟨R, S, l, r, hl, h⟩ => ?_
  refine ⟨R, S, l, r, hl, (Out.bind h).impW (fun ds S1 R1 H1 x1 r1 q vs hvs => ?_) fun _ _ _ q => q σ⟩
  cases hvs with
  | nil => exact False.elim q
  | cons h1 t =>
    cases t with
    | nil => exact False.elim q
    | cons h2 t =>
      cases t with
      | nil => exact False.elim q
      | cons h3 t =>
        cases t with
        | cons _ _ => exact False.elim q
        | nil => exact ⟨_, _, _, rfl, Out.pure q r1 _ ((((hl.ext r x1).set h1).set h2).set h3)⟩⟩
end

/-! ### C(): with an __init__ of self alone, without one -/
def eMake0 (C : Str) (m : List D → Sto → Res D) : ME := fun _ S => (noErr (m [.ref S.length] (S ++ [.ins C []]))).bind fun r S2 => if isNon r = true then .ok (.ref S.length) S2 else .bad
def eBare (C : Str) : ME := fun _ S => .ok (.ref S.length) (S ++ [.ins C []])
structure MkB (K : PySem.W.Frag) (C : Str) : Prop where
  makes : PySem.W.makesIn K (He.ga K C) = true
  init : PySem.W.findIn K (.ref (He.ga K C)) "__init__" = some (some (.builtin "object.__init__"))
  kp : PySem.W.keepIn K (.ref (He.ga K C)) = true
section
variable {X : Cx} {pos p : Pos} {C : Str} {ps : List Str} {j k : Nat} {m : List D → Sto → Res D} {f' : Addr}
theorem se_make0 (M : Mk X.K (He.ga X.K C) f') (F : FnA X.prog X.w X.K X.mg X.base f' ps [] j m) (hr : Room k X.A) (hg : Gl X C) (hm : X.mg C = some (.ref (He.ga X.K C))) (h1 : ps.length = 1 := by rfl) (hj : j + 1 ≤ k := by decide) (hdb : (C == ("__debug__" : Str)) = false := by decide) :
    SE X (.Call (.Name C p) [] [] pos) (eMake0 C m) := ⟨fun W tk => by
  obtain ⟨⟨fd, ds, dvs, F, hb, hd, hdd⟩, kp⟩ := F
  have hz : dvs = [] := no_dfl hdd
  refine PE.mono (pe_make0 (E := fun _ _ _ => False) M F (hr.mono hj) hg hm hb hd passL hdb) fun σ H Q ⟨R, S, l, r, hl, q⟩ => ?_
  intro x dx hx hdx ne
  obtain ⟨r2, x2⟩ := Rel.made r (C := C) hx hdx ne
  have hx0 : DV X.K (R ++ [x]) (upd (upd H dx (.own x)) x (.ins (He.ga X.K C) dx [])) (.ref S.length) (.ref x) := .ref (get_last r)
  subst hz
  refine ⟨by rw [h1]; rfl, R ++ [x], S ++ [.ins C []], [.ref S.length], r2, .cons hx0 .nil, ?_⟩
  have q2 := Out.shift q x2 r2.some
  exact noErr_out ((Out.bind q2).imp fun d S3 R3 H3 x3 r3 q3 v hv => by
    by_cases zd : isNon d = true
    · rw [if_pos zd] at q3
      refine ⟨?_, Out.pure q3 r3 _ (hx0.ext r2 x3)⟩
      rw [hv.isN] at zd
      exact of_decide_eq_true zd
    · rw [if_neg zd] at q3; exact False.elim q3)⟩
open PySem.W in
theorem run_bare (M : MkB X.K C) {pins : List (Addr × Obj)} {σ : L2.St} {H : Hp} {s : Shared} {Q : VK} (I : Inv X pins σ H s) (q : ∀ x dx, H x = none → H dx = none → dx ≠ x → Q (.ref x) (upd (upd H dx (.own x)) x (.ins (He.ga X.K C) dx []))) :
    wpAny (model X.prog X.w) X.A (call (.ref (He.ga X.K C)) []) (EP X pins σ Q) X.xe s := by
  have hq := q (s.heap.objs.size + 1) s.heap.objs.size (I.hok.fresh (Nat.le_succ _)) (I.hok.fresh (Nat.le_refl _)) (Nat.ne_of_lt (Nat.lt_succ_self _))
  have I2 := Inv.made (C := He.ga X.K C) I
  have Y := makes_of (M := model X.prog X.w) I.kIn M.makes
  obtain ⟨hh, g, d, t, os⟩ := s
  refine wpAny_call (make_core Y (looks_findIn I.kIn M.init) (fun self => Looks.of_pure (oi_bind self)) (.inr ⟨rfl, rfl⟩) ?_)
  have hx : ((hh.push emptyDict).push (instObj (He.ga X.K C) hh.objs.size)).get? (hh.objs.size + 1) = some (instObj (He.ga X.K C) hh.objs.size) := by heap_get
  have t1 : Looks (model X.prog X.w) ((hh.push emptyDict).push (instObj (He.ga X.K C) hh.objs.size)) (typeOf (.ref (hh.objs.size + 1))) (.ref (He.ga X.K C)) := (Looks.ld hx).andThen .now
  have t2 : Looks (model X.prog X.w) ((hh.push emptyDict).push (instObj (He.ga X.K C) hh.objs.size)) (isInstance (.ref (hh.objs.size + 1)) (.type "object")) true :=
    t1.andThen (Y.top.keeps fun b o e => Heap.get?_push_of_some _ (Heap.get?_push_of_some _ e))
  refine codeAny_call_builtin oi_plain entry_oi
    (@check_slot (model X.prog X.w) _ _ _ "object.__init__" "object" "__init__" (.ref (hh.objs.size + 1)) [] [] _ oi_kind oi_split t2 (oi_args (.ref (hh.objs.size + 1))) ?_)
  rw [oi_run]
  exact wpAny_pure (And.intro rfl ⟨V.ref (hh.objs.size + 1), _, I2, rfl, hq⟩)
theorem se_bare (M : MkB X.K C) (hg : Gl X C) (hm : X.mg C = some (.ref (He.ga X.K C))) (hdb : (C == ("__debug__" : Str)) = false := by decide) : SE X (.Call (.Name C p) [] [] pos) (eBare C) := ⟨fun W tk => by
  refine ⟨fun pins s σ H Q I ⟨R, S, l, r, hl, q⟩ => ?_⟩
  refine wpAny_Call_Name_kw (ld_glob I hg hm ?_ hdb)
  refine PySem.W.callWith_K0 I.kIn M.kp (run_bare M I fun x dx hx hdx ne => ?_)
  obtain ⟨r2, x2⟩ := Rel.made r (C := C) hx hdx ne
  exact q _ _ x2 r2 _ (.ref (get_last r))⟩
end
end SL
set_option Elab.async false
set_option linter.all false
set_option maxRecDepth 100000
set_option maxHeartbeats 1000000
namespace SL
open PySem PySem.Spec PyProof.Rows L2 RZ

/-! ### zip(a, b, strict=True) of two tuples of one length -/
abbrev IsZipS (h : Heap) (z TI TO : Addr) (f0 : Value) : Prop :=
  h.get? z = some { cls := .type "zip", dict := none, data := .fields #[f0, .bool false, .bool true, .ref TI, .ref TO], slots := #[] }
section
variable {prog : Program} {w : World} {A : Around} {E : Value → Shared → Prop} {s : Shared}
theorem nextOrEnd_item {it l : Addr} {i : Nat} {items} {x : Value} {Q : Option Value → Shared → Prop} (hit : s.heap.IsTupleIter it l i) (hl : s.heap.IsTuple l items) (hx : items[i]? = some x)
    (hQ : ∀ h', h'.IsTupleIter it l (i + 1) → Heap.SameBut it s.heap h' → Q (some x) { s with heap := h' }) : wpAny (model prog w) A (Builtin.SmallTypes.nextOrEnd (.ref it)) Q E s := by
  unfold Builtin.SmallTypes.nextOrEnd
  exact wpAny_bind (wpAny_attempt (nextOf_tuple_item hit hl hx fun h' a b => wpAny_pure (hQ h' a b)))
theorem nextOrEnd_end {it l : Addr} {i : Nat} {items} {Q : Option Value → Shared → Prop} (hh : A.handled = none) (hit : s.heap.IsTupleIter it l i) (hl : s.heap.IsTuple l items) (hx : items[i]? = none)
    (hQ : ∀ h', Heap.ExtBut it s.heap h' → Q none { s with heap := h' }) : wpAny (model prog w) A (Builtin.SmallTypes.nextOrEnd (.ref it)) Q E s := by
  unfold Builtin.SmallTypes.nextOrEnd
  refine wpAny_bind (wpAny_attempt (nextOf_tuple_end hh hit hl hx fun h' e k he => ?_))
  obtain ⟨o, ho, hc⟩ := he
  exact wpAny_bind (wpAny_isInstance (T := "StopIteration") (b := true) ⟨o, ho, hc⟩ isSubtype_stop (wpAny_pure (hQ _ k)))
theorem zipS_item {z TI TO i1 i2 l1 l2 : Addr} {k1 k2 : Nat} {xs ys : Array Value} {x y a b : Value} {Q : Value → Shared → Prop} (D : ZipApart z TI TO i1 i2 l1 l2)
    (hz : IsZipS s.heap z TI TO .none) (hTI : IsPair s.heap TI (.ref i1) (.ref i2)) (hTO : IsPair s.heap TO a b)
    (h1 : s.heap.IsTupleIter i1 l1 k1) (h2 : s.heap.IsTupleIter i2 l2 k2) (hl1 : s.heap.IsTuple l1 xs) (hl2 : s.heap.IsTuple l2 ys) (hx : xs[k1]? = some x) (hy : ys[k2]? = some y)
    (hQ : ∀ h', IsZipS h' z TI TO (rawInt s.heap.objs.size) → IsPair h' TO x y → h'.IsTupleIter i1 l1 (k1 + 1) → h'.IsTupleIter i2 l2 (k2 + 1) → IsPair h' s.heap.objs.size x y → h'.objs.size = s.heap.objs.size + 1 →
      (∀ c o, c ≠ z → c ≠ TO → c ≠ i1 → c ≠ i2 → s.heap.get? c = some o → h'.get? c = some o) → Q (.ref s.heap.objs.size) { s with heap := h' }) :
    wpAny (model prog w) A (Builtin.«zip.__next__» ⟨[.ref z], []⟩) (fun fin s' => ∃ v, fin = .done (.ret v) ∧ Q v s') E s := by
  show wpAny _ _ (field (.ref z) 2 >>= _) _ _ _
  refine wpAny_bind (wpAny_field hz rfl (x := .bool true) rfl ?_)
  show wpAny _ _ (field (.ref z) 3 >>= _) _ _ _
  refine wpAny_bind (wpAny_field hz rfl (x := .ref TI) rfl ?_)
  refine wpAny_bind (wpAny_seqItems hTI rfl ?_)
  show wpAny _ _ (Builtin.SmallTypes.ownedTupleIsFree (.ref z) >>= _) _ _ _
  refine wpAny_bind ?_
  unfold Builtin.SmallTypes.ownedTupleIsFree
  refine wpAny_bind (wpAny_field hz rfl (x := .none) rfl (wpAny_pure ?_))
  simp only [if_true]
  refine wpAny_bind (wpAny_rule ?_)
  refine wpAny_bind (wpAny_field hz rfl (x := .ref TO) rfl ?_)
  refine wpAny_bind (wpAny_setField_rec hz (by simp) fun h₁ hz₁ hs₁ => ?_)
  replace hz₁ : IsZipS h₁ z TI TO .ellipsis := hz₁
  refine wpAny_bind ?_
  simp only [List.zipIdx_cons, List.zipIdx_nil, List.forIn_cons, List.forIn_nil]
  refine wpAny_bind (wpAny_bind (wpAny_onRaise ?_))
  show wpAny _ _ (Builtin.SmallTypes.nextOrEnd (.ref i1)) _ _ _
  refine nextOrEnd_item (h1.extBut hs₁.extBut D.i1z) (hl1.extBut hs₁.extBut D.l1z) hx fun h₂ h1₂ hs₂ => ?_
  have hTO₂ : IsPair h₂ TO a b := hs₂.extBut _ _ D.TOi1 (hs₁.extBut _ _ D.TOz hTO)
  refine wpAny_bind (wpAny_seqItems hTO₂ rfl ?_)
  refine wpAny_bind (wpAny_updateSeq_pair hTO₂ fun h₃ hTO₃ hs₃ => ?_)
  replace hTO₃ : IsPair h₃ TO x b := hTO₃
  refine wpAny_bind (wpAny_letGo (wpAny_pure ?_))
  refine wpAny_bind (wpAny_bind (wpAny_onRaise ?_))
  show wpAny _ _ (Builtin.SmallTypes.nextOrEnd (.ref i2)) _ _ _
  refine nextOrEnd_item (((h2.extBut hs₁.extBut D.i2z).extBut hs₂.extBut D.i12.symm).extBut hs₃.extBut D.TOi2.symm)
    (((hl2.extBut hs₁.extBut D.l2z).extBut hs₂.extBut D.l2i1).extBut hs₃.extBut D.l2TO) hy fun h₄ h2₄ hs₄ => ?_
  have hTO₄ : IsPair h₄ TO x b := hs₄.extBut _ _ D.TOi2 hTO₃
  refine wpAny_bind (wpAny_seqItems hTO₄ rfl ?_)
  refine wpAny_bind (wpAny_updateSeq_pair hTO₄ fun h₅ hTO₅ hs₅ => ?_)
  replace hTO₅ : IsPair h₅ TO x y := hTO₅
  refine wpAny_bind (wpAny_letGo (wpAny_pure (wpAny_pure ?_)))
  refine wpAny_bind (wpAny_seqItems hTO₅ rfl ?_)
  refine wpAny_bind (wpAny_newTuple ?_)
  have hsz : h₅.objs.size = s.heap.objs.size := by rw [hs₅.1, hs₄.1, hs₃.1, hs₂.1, hs₁.1]
  have hz₅ : IsZipS h₅ z TI TO .ellipsis := hs₅.extBut _ _ D.TOz.symm (hs₄.extBut _ _ D.i2z.symm (hs₃.extBut _ _ D.TOz.symm (hs₂.extBut _ _ D.i1z.symm hz₁)))
  have hk₅ : ∀ c o, c ≠ z → c ≠ TO → c ≠ i1 → c ≠ i2 → s.heap.get? c = some o → h₅.get? c = some o := fun c o c1 c2 c3 c4 e =>
    hs₅.extBut _ _ c2 (hs₄.extBut _ _ c4 (hs₃.extBut _ _ c2 (hs₂.extBut _ _ c3 (hs₁.extBut _ _ c1 e))))
  have h1₅ : h₅.IsTupleIter i1 l1 (k1 + 1) := ((h1₂.extBut hs₃.extBut D.TOi1.symm).extBut hs₄.extBut D.i12).extBut hs₅.extBut D.TOi1.symm
  have h2₅ : h₅.IsTupleIter i2 l2 (k2 + 1) := h2₄.extBut hs₅.extBut D.TOi2.symm
  have hzlt : z < h₅.objs.size := Heap.lt_size hz₅
  show wpAny _ _ (Builtin.SmallTypes.ownedTupleHandOut (.ref z) (.ref h₅.objs.size) >>= _) _ _ _
  refine wpAny_bind ?_
  unfold Builtin.SmallTypes.ownedTupleHandOut
  have hz₆ : IsZipS (h₅.push { cls := .type "tuple", data := .seq #[x, y] }) z TI TO .ellipsis := Heap.get?_push_of_some _ hz₅
  refine wpAny_bind (wpAny_setField_rec hz₆ (by simp) fun h₇ hz₇ hs₇ => ?_)
  replace hz₇ : IsZipS h₇ z TI TO (rawInt h₅.objs.size) := hz₇
  refine wpAny_setField_rec hz₇ (by simp) fun h₈ hz₈ hs₈ => ?_
  replace hz₈ : IsZipS h₈ z TI TO (rawInt h₅.objs.size) := hz₈
  have up : ∀ c o, c ≠ z → h₅.get? c = some o → h₈.get? c = some o := fun c o c1 e => hs₈.extBut _ _ c1 (hs₇.extBut _ _ c1 (Heap.get?_push_of_some _ e))
  have hT₈ : IsPair h₈ h₅.objs.size x y := hs₈.extBut _ _ (Nat.ne_of_gt hzlt) (hs₇.extBut _ _ (Nat.ne_of_gt hzlt) (Heap.get?_push_size _ rfl))
  have hz8 : h₈.objs.size = h₅.objs.size + 1 := by rw [hs₈.1, hs₇.1, Heap.size_push]
  rw [hsz] at hz₈ hT₈ hz8
  refine wpAny_pure ⟨_, rfl, ?_⟩
  show Q (.ref h₅.objs.size) _
  rw [hsz]
  exact hQ h₈ hz₈ (up _ _ D.TOz hTO₅) (h1₅.at fun o e => up _ o D.i1z e) (h2₅.at fun o e => up _ o D.i2z e) hT₈ hz8 fun c o c1 c2 c3 c4 e => up c o c1 (hk₅ c o c1 c2 c3 c4 e)
theorem zipS_end {z TI TO i1 i2 l1 l2 : Addr} {k1 k2 : Nat} {xs ys : Array Value} {a b : Value} {Q : Fin → Shared → Prop} (hh : A.handled = none) (D : ZipApart z TI TO i1 i2 l1 l2)
    (hz : IsZipS s.heap z TI TO .none) (hTI : IsPair s.heap TI (.ref i1) (.ref i2)) (hTO : IsPair s.heap TO a b)
    (h1 : s.heap.IsTupleIter i1 l1 k1) (h2 : s.heap.IsTupleIter i2 l2 k2) (hl1 : s.heap.IsTuple l1 xs) (hl2 : s.heap.IsTuple l2 ys) (hx : xs[k1]? = none) (hy : ys[k2]? = none)
    (hE : ∀ h' e, (∀ c o, c ≠ z → c ≠ TO → c ≠ i1 → c ≠ i2 → s.heap.get? c = some o → h'.get? c = some o) → (∃ o, h'.get? e = some o ∧ o.cls = .type "StopIteration") → E (.ref e) { s with heap := h' }) :
    wpAny (model prog w) A (Builtin.«zip.__next__» ⟨[.ref z], []⟩) Q E s := by
  show wpAny _ _ (field (.ref z) 2 >>= _) _ _ _
  refine wpAny_bind (wpAny_field hz rfl (x := .bool true) rfl ?_)
  show wpAny _ _ (field (.ref z) 3 >>= _) _ _ _
  refine wpAny_bind (wpAny_field hz rfl (x := .ref TI) rfl ?_)
  refine wpAny_bind (wpAny_seqItems hTI rfl ?_)
  show wpAny _ _ (Builtin.SmallTypes.ownedTupleIsFree (.ref z) >>= _) _ _ _
  refine wpAny_bind ?_
  unfold Builtin.SmallTypes.ownedTupleIsFree
  refine wpAny_bind (wpAny_field hz rfl (x := .none) rfl (wpAny_pure ?_))
  simp only [if_true]
  refine wpAny_bind (wpAny_rule ?_)
  refine wpAny_bind (wpAny_field hz rfl (x := .ref TO) rfl ?_)
  refine wpAny_bind (wpAny_setField_rec hz (by simp) fun h₁ hz₁ hs₁ => ?_)
  replace hz₁ : IsZipS h₁ z TI TO .ellipsis := hz₁
  refine wpAny_bind ?_
  simp only [List.zipIdx_cons, List.zipIdx_nil, List.forIn_cons, List.forIn_nil]
  refine wpAny_bind (wpAny_bind (wpAny_onRaise ?_))
  show wpAny _ _ (Builtin.SmallTypes.nextOrEnd (.ref i1)) _ _ _
  refine nextOrEnd_end hh (h1.extBut hs₁.extBut D.i1z) (hl1.extBut hs₁.extBut D.l1z) hx fun h₂ hs₂ => ?_
  have hz₂ : IsZipS h₂ z TI TO .ellipsis := hs₂ _ _ D.i1z.symm hz₁
  refine wpAny_bind (wpAny_setField_rec hz₂ (by simp) fun h₃ hz₃ hs₃ => ?_)
  have k3 : ∀ c o, c ≠ z → c ≠ i1 → s.heap.get? c = some o → h₃.get? c = some o := fun c o c1 c3 x => hs₃.extBut _ _ c1 (hs₂ _ _ c3 (hs₁.extBut _ _ c1 x))
  have h2₃ : h₃.IsTupleIter i2 l2 k2 := h2.at fun o e => k3 _ o D.i2z D.i12.symm e
  have hl2₃ : h₃.IsTuple l2 ys := by
    obtain ⟨o, ho, r⟩ := hl2
    exact ⟨o, k3 _ o D.l2z D.l2i1 ho, r⟩
  refine wpAny_bind ?_
  show wpAny _ _ (forIn [(Value.ref i2, 1)] PUnit.unit _ >>= _) _ _ _
  simp only [List.forIn_cons, List.forIn_nil]
  refine wpAny_bind (wpAny_bind (wpAny_bind (nextOrEnd_end hh h2₃ hl2₃ hy fun h₄ hs₄ => ?_)))
  simp only [Option.isSome_none, Bool.false_eq_true, if_false]
  refine wpAny_pure (wpAny_pure (wpAny_bind (wpAny_rule ?_)))
  show wpAny _ _ (newExc (.type "StopIteration") [] >>= _) _ _ _
  refine wpAny_bind ?_
  simp only [newExc, newTuple]
  refine wpAny_bind (wpAny_newObj_type ?_ (by size_fits))
  refine wpAny_bind (m := firstArgMember _ _) (wpAny_of_eq (a := Value.none) (by first | rfl | (simp only [firstArgMember]; rfl)) ?_)
  refine wpAny_newObj_type ?_ (by size_fits)
  simp only [raiseNew]
  refine wpAny_bind (wpAny_handled ?_)
  rw [hh]
  refine wpAny_bind (wpAny_pure (wpAny_throw ?_))
  exact hE _ _ (fun c o c1 c2 c3 c4 e => Heap.get?_push_of_some _ (Heap.get?_push_of_some _ (hs₄ _ _ c4 (k3 c o c1 c3 e)))) ⟨_, Heap.get?_push_size _ rfl, rfl⟩
end
end SL
set_option Elab.async false
set_option linter.all false
set_option maxRecDepth 100000
set_option maxHeartbeats 1000000
namespace SL
open PySem PySem.Spec PyProof.Rows L2 RZ

section
variable {prog : Program} {w : World} {A : Around} {E : Value → Shared → Prop} {s : Shared}
theorem pyNextS_item {z TI TO i1 i2 l1 l2 : Addr} {k1 k2 : Nat} {xs ys : Array Value} {x y a b : Value} {Q : Option Value → Shared → Prop} (D : ZipApart z TI TO i1 i2 l1 l2)
    (hz : IsZipS s.heap z TI TO .none) (hTI : IsPair s.heap TI (.ref i1) (.ref i2)) (hTO : IsPair s.heap TO a b)
    (h1 : s.heap.IsTupleIter i1 l1 k1) (h2 : s.heap.IsTupleIter i2 l2 k2) (hl1 : s.heap.IsTuple l1 xs) (hl2 : s.heap.IsTuple l2 ys) (hx : xs[k1]? = some x) (hy : ys[k2]? = some y)
    (hQ : ∀ h', IsZipS h' z TI TO (rawInt s.heap.objs.size) → IsPair h' TO x y → h'.IsTupleIter i1 l1 (k1 + 1) → h'.IsTupleIter i2 l2 (k2 + 1) → IsPair h' s.heap.objs.size x y → h'.objs.size = s.heap.objs.size + 1 →
      (∀ c o, c ≠ z → c ≠ TO → c ≠ i1 → c ≠ i2 → s.heap.get? c = some o → h'.get? c = some o) → Q (some (.ref s.heap.objs.size)) { s with heap := h' }) :
    wpAny (model prog w) A (pyNext (.ref z)) Q E s := by
  have hT : s.TypeIs (.ref z) "zip" := ⟨_, hz, rfl⟩
  unfold pyNext
  refine wpAny_bind (wpAny_attempt (wpAny_callSpecial?_slot (name := Str.ofString "__next__") hT F.slot_zip_next ?_))
  exact wpAny_call_entry F.slot_zip_next hT F.entry_zip_next (zipS_item D hz hTI hTO h1 h2 hl1 hl2 hx hy fun h' a1 a2 a3 a4 a5 a6 a7 => wpAny_pure (hQ h' a1 a2 a3 a4 a5 a6 a7)) (F.args_zip_next_1 _)
theorem pyNextS_end {z TI TO i1 i2 l1 l2 : Addr} {k1 k2 : Nat} {xs ys : Array Value} {a b : Value} {Q : Option Value → Shared → Prop} (hh : A.handled = none) (D : ZipApart z TI TO i1 i2 l1 l2)
    (hz : IsZipS s.heap z TI TO .none) (hTI : IsPair s.heap TI (.ref i1) (.ref i2)) (hTO : IsPair s.heap TO a b)
    (h1 : s.heap.IsTupleIter i1 l1 k1) (h2 : s.heap.IsTupleIter i2 l2 k2) (hl1 : s.heap.IsTuple l1 xs) (hl2 : s.heap.IsTuple l2 ys) (hx : xs[k1]? = none) (hy : ys[k2]? = none)
    (hQ : ∀ h', (∀ c o, c ≠ z → c ≠ TO → c ≠ i1 → c ≠ i2 → s.heap.get? c = some o → h'.get? c = some o) → Q none { s with heap := h' }) : wpAny (model prog w) A (pyNext (.ref z)) Q E s := by
  have hT : s.TypeIs (.ref z) "zip" := ⟨_, hz, rfl⟩
  unfold pyNext
  refine wpAny_bind (wpAny_attempt (wpAny_callSpecial?_slot (name := Str.ofString "__next__") hT F.slot_zip_next ?_))
  refine wpAny_call_entry F.slot_zip_next hT F.entry_zip_next (zipS_end hh D hz hTI hTO h1 h2 hl1 hl2 hx hy fun h' e hk he => ?_) (F.args_zip_next_1 _)
  obtain ⟨o, ho, hc⟩ := he
  exact wpAny_bind (wpAny_isInstance (T := "StopIteration") (b := true) ⟨o, ho, hc⟩ isSubtype_stop (wpAny_pure (hQ _ hk)))
theorem letGoS {elts : List Expr} {x1} {pos : Pos} {z TI TO T : Addr} {Q : Unit → Shared → Prop} (hz : IsZipS s.heap z TI TO (rawInt T))
    (hQ : ∀ h', IsZipS h' z TI TO .none → Heap.SameBut z s.heap h' → Q () { s with heap := h' }) :
    wpAny (model prog w) A (letOwnedTupleGo (.Tuple elts x1 pos) (.ref z) (.ref T)) Q E s := by
  unfold letOwnedTupleGo
  refine wpAny_bind (wpAny_load hz ?_)
  show wpAny _ _ (if (["enumerate", "zip", "dict_itemiterator", "dict_reverseitemiterator", "odict_iterator", "itertools.zip_longest", "itertools.pairwise"].contains "zip" &&
      (#[rawInt T, .bool false, .bool true, .ref TI, .ref TO] : Array Value)[0]? == some (rawInt T)) = true then _ else _) Q E s
  rw [if_pos (by simp)]
  refine wpAny_bind (wpAny_rule ?_)
  show wpAny _ _ (setField (.ref z) 0 .none) Q E s
  exact wpAny_setField_rec hz (by simp) fun h' hz' hs' => hQ h' hz' hs'
theorem pyIterS {z TI TO : Addr} {f0 : Value} {Q : Value → Shared → Prop} (hz : IsZipS s.heap z TI TO f0) (h : Q (.ref z) s) : wpAny (model prog w) A (pyIter (.ref z)) Q E s := by
  have hT : s.TypeIs (.ref z) "zip" := ⟨_, hz, rfl⟩
  refine wpAny_pyIter_slot hT F.slot_zip_iter (wpAny_call_entry F.slot_zip_iter hT F.entry_zip_iter ?_ (F.args_zip_iter_1 _))
  show wpAny _ _ (ret (.ref z)) _ _ s
  exact wpAny_pure ⟨_, rfl, "zip", _, hT, F.slot_zip_next.lookup, h⟩
abbrev zSH (h : Heap) (l1 l2 : Addr) : Heap := (zipTH4 h l1 l2).push { cls := .type "zip", data := .fields #[.none, .bool false, .bool true, .ref (zipTH2 h l1 l2).objs.size, .ref (zipTH3 h l1 l2).objs.size] }
theorem meetsS_new (l1 l2 : Addr) (xs ys : Array Value) :
    Meets (Builtin.«zip.__new__» ⟨[.type "zip", .ref l1, .ref l2], [(Str.ofString "strict", .bool true)]⟩) (fun _ R s => s.heap.IsTuple l1 xs ∧ s.heap.IsTuple l2 ys ∧
      R (.ok (.ret (.ref (zipTH4 s.heap l1 l2).objs.size))) { s with heap := zSH s.heap l1 l2 }) :=
  .of_wp fun prog w A R s h => by
    obtain ⟨hp, g, d, tk, os⟩ := s; obtain ⟨hl1, hl2, h⟩ := h
    have hsub := sub_zip
    have hL1 : Heap.IsTuple (Shared.heap ⟨hp, g, d, tk, os⟩) l1 xs := hl1
    have hL2 : Heap.IsTuple (Shared.heap ⟨hp.push { cls := .type "tuple_iterator", data := .fields #[.ref l1, .int 0 0] }, g, d, tk, os⟩) l2 ys := Heap.IsTuple.push hl2 _
    wp_walk using wpAny_pyIter_tuple hL1, wpAny_pyIter_tuple hL2
    exact ⟨_, rfl, h⟩
theorem typeCallS (a b : Value) : checkTypeCall "zip" ⟨[a, b], [(Str.ofString "strict", .bool true)]⟩ = pure () := by kernel_rfl
theorem newCallS (a b : Value) : checkBuiltinCall "zip.__new__" ⟨[.type "zip", a, b], [(Str.ofString "strict", .bool true)]⟩ = pure () := by kernel_rfl
theorem initS (obj a b : Value) : argsOk "object.__init__" ⟨[obj, a, b], [(Str.ofString "strict", .bool true)]⟩ := by unfold argsOk; kernel_rfl
end
end SL
set_option Elab.async false
set_option linter.all false
set_option maxRecDepth 100000
set_option maxHeartbeats 1000000
namespace SL
open PySem PySem.Spec PyProof.Rows L2 RZ

section
variable {prog : Program} {w : World} {A : Around} {E : Value → Shared → Prop} {s : Shared}
theorem callS {l1 l2 : Addr} {xs ys : Array Value} {Q : Value → Shared → Prop} (hl1 : s.heap.IsTuple l1 xs) (hl2 : s.heap.IsTuple l2 ys)
    (h : ∀ h', IsZipS h' (s.heap.objs.size + 4) (s.heap.objs.size + 2) (s.heap.objs.size + 3) .none → IsPair h' (s.heap.objs.size + 2) (.ref s.heap.objs.size) (.ref (s.heap.objs.size + 1)) →
      IsPair h' (s.heap.objs.size + 3) .none .none → h'.IsTupleIter s.heap.objs.size l1 0 → h'.IsTupleIter (s.heap.objs.size + 1) l2 0 → h'.objs.size = s.heap.objs.size + 5 →
      (∀ c o, s.heap.get? c = some o → h'.get? c = some o) → Q (.ref (s.heap.objs.size + 4)) { s with heap := h' }) :
    wpAny (model prog w) A (call (.type "zip") [.ref l1, .ref l2] [(Str.ofString "strict", .bool true)]) Q E s := by
  refine PySem.callType_newKw F.called_zip (by decide) (typeCallS _ _) (newCallS _ _) (fun obj => initS obj _ _) F.entry_zip_new (meetsS_new l1 l2 xs ys) ⟨hl1, hl2, ?_⟩
  have z1 : (zipTH1 s.heap l1).objs.size = s.heap.objs.size + 1 := Heap.size_push ..
  have z2 : (zipTH2 s.heap l1 l2).objs.size = s.heap.objs.size + 2 := by rw [Heap.size_push, z1]
  have z3 : (zipTH3 s.heap l1 l2).objs.size = s.heap.objs.size + 3 := by rw [Heap.size_push, z2]
  have z4 : (zipTH4 s.heap l1 l2).objs.size = s.heap.objs.size + 4 := by rw [Heap.size_push, z3]
  have z5 : (zSH s.heap l1 l2).objs.size = s.heap.objs.size + 5 := by rw [Heap.size_push, z4]
  have g5 : (zSH s.heap l1 l2).get? (zipTH4 s.heap l1 l2).objs.size = some _ := Heap.get?_push_size _ rfl
  have g4 : (zSH s.heap l1 l2).get? (zipTH3 s.heap l1 l2).objs.size = some _ := Heap.get?_push_of_some _ (Heap.get?_push_size _ rfl)
  have g3 : (zSH s.heap l1 l2).get? (zipTH2 s.heap l1 l2).objs.size = some _ := Heap.get?_push_of_some _ (Heap.get?_push_of_some _ (Heap.get?_push_size _ rfl))
  have g2 : (zSH s.heap l1 l2).get? (zipTH1 s.heap l1).objs.size = some _ := Heap.get?_push_of_some _ (Heap.get?_push_of_some _ (Heap.get?_push_of_some _ (Heap.get?_push_size _ rfl)))
  have g1 : (zSH s.heap l1 l2).get? s.heap.objs.size = some _ := Heap.get?_push_of_some _ (Heap.get?_push_of_some _ (Heap.get?_push_of_some _ (Heap.get?_push_of_some _ (Heap.get?_push_size _ rfl))))
  show _ ∧ _
  rw [z2, z3, z4] at g5
  rw [z1, z2] at g3
  rw [z3] at g4
  rw [z1] at g2
  rw [z4]
  refine ⟨⟨_, g5, rfl⟩, h _ g5 g3 g4 ⟨_, g1, rfl, rfl⟩ ⟨_, g2, rfl, rfl⟩ z5 fun c o x => ?_⟩
  exact Heap.get?_push_of_some _ (Heap.get?_push_of_some _ (Heap.get?_push_of_some _ (Heap.get?_push_of_some _ (Heap.get?_push_of_some _ x))))
end
/-- the tuples at a and b, of one length -/
def ItzS (K : PySem.W.Frag) (a b : Addr) : It :=
  ⟨fun i H => ∃ (xs ys : List V) (x y : V), SqT K H a xs ∧ SqT K H b ys ∧ xs[i]? = some x ∧ ys[i]? = some y,
    fun i H v H' => ∃ T x y, v = .ref T ∧ H T = none ∧ H' = upd H T (.tup [x, y]) ∧ (∀ xs, SqT K H a xs → xs[i]? = some x) ∧ ∀ ys, SqT K H b ys → ys[i]? = some y,
    fun i H => ∃ xs ys : List V, SqT K H a xs ∧ SqT K H b ys ∧ xs.length ≤ i ∧ ys.length ≤ i⟩
theorem turn_zipS {P : Program} {w : World} {K : PySem.W.Frag} {elts : List Expr} {kk : Nat} {tpos : Pos} {a b z TI TO i1 i2 : Addr} (D : ZipApart z TI TO i1 i2 a b) :
    Turn P w K (.Tuple elts kk tpos) (ItzS K a b) [z, TI, TO, i1, i2] z (fun i h => IsZipS h z TI TO .none ∧ IsPair h TI (.ref i1) (.ref i2) ∧ (∃ x y, IsPair h TO x y) ∧ h.IsTupleIter i1 a i ∧ h.IsTupleIter i2 b i) where
  mem := by simp
  obj := fun i h st c hc => by
    obtain ⟨hz, hTI, ⟨x, y, hTO⟩, ⟨o1, e1, _, d1⟩, ⟨o2, e2, _, d2⟩⟩ := st
    have e' : c = z ∨ c = TI ∨ c = TO ∨ c = i1 ∨ c = i2 := by simpa using hc
    rcases e' with q | q | q | q | q
    · rw [q]; exact ⟨_, hz, fun v q => nomatch q⟩
    · rw [q]; exact ⟨_, hTI, fun v q => nomatch q⟩
    · rw [q]; exact ⟨_, hTO, fun v q => nomatch q⟩
    · rw [q]; exact ⟨o1, e1, fun v q => by rw [d1] at q; cases q⟩
    · rw [q]; exact ⟨o2, e2, fun v q => by rw [d2] at q; cases q⟩
  keep := fun i h h' st k => by
    obtain ⟨hz, hTI, ⟨x, y, hTO⟩, h1, h2⟩ := st
    exact ⟨k z (by simp) _ hz, k TI (by simp) _ hTI, ⟨x, y, k TO (by simp) _ hTO⟩, h1.at fun o q => k i1 (by simp) o q, h2.at fun o q => k i2 (by simp) o q⟩
  item := by
    intro X hP hw hK hc i pins s σ H E I hf st hg
    subst hP hw hK
    obtain ⟨hz, hTI, ⟨x0, y0, hTO⟩, h1, h2⟩ := st
    obtain ⟨xs, ys, x, y, hqx, hqy, hx, hy⟩ := hg
    obtain ⟨its, rv, p, _⟩ := I.tuple hqx
    obtain ⟨its2, rv2, p2, _⟩ := I.tuple hqy
    obtain ⟨u, hu, ru⟩ := rv.get hx
    obtain ⟨u2, hu2, ru2⟩ := rv2.get hy
    have hzl : z < s.heap.objs.size := Heap.lt_size hz
    refine pyNextS_item D hz hTI hTO h1 h2 p p2 (x := u) (y := u2) (by simpa using hu) (by simpa using hu2) fun h' z' TO' h1' h2' hT hsz hk => ?_
    refine ⟨_, rfl, letGoS (s := { s with heap := h' }) z' fun h'' z'' sb => ?_⟩
    have hT2 : h''.get? s.heap.objs.size = some { cls := .type "tuple", data := .seq #[u, u2] } := (sb.2 _ (Nat.ne_of_gt hzl)).trans hT
    have new : ObjOk X.prog X.w (upd H s.heap.objs.size (.tup [x, y])) h'' s.heap.objs.size (.tup [x, y]) :=
      ⟨by show 2 ≤ sizeLine; decide, [u, u2], .cons ru (.cons ru2 .nil), ⟨_, hT2, rfl, _, rfl⟩⟩
    have I1 : Inv X pins σ (upd H s.heap.objs.size (.tup [x, y])) { s with heap := h'' } :=
      I.turnedNew (t' := s.toks) (ch := [z, TI, TO, i1, i2]) (fun c o hb q => (sb.2 c (fun q' => hb (by simp [q']))).trans (hk c o (fun q' => hb (by simp [q'])) (fun q' => hb (by simp [q'])) (fun q' => hb (by simp [q'])) (fun q' => hb (by simp [q'])) q)) hf (Nat.le_refl _) new
    refine ⟨.ref s.heap.objs.size, _, I1, rfl, ⟨_, x, y, rfl, I.hok.fresh (Nat.le_refl _), rfl, fun l hl => by rw [I.tuple_inj hl hqx]; exact hx, fun l hl => by rw [I.tuple_inj hl hqy]; exact hy⟩, ⟨z'', ?_, ⟨u, u2, ?_⟩, ?_, ?_⟩, fun c hcm => ?_⟩
    · exact (sb.2 _ D.TIz).trans (hk _ _ D.TIz D.TITO D.TIi1 D.TIi2 hTI)
    · exact (sb.2 _ D.TOz).trans TO'
    · exact h1'.at fun o q => (sb.2 _ D.i1z).trans q
    · exact h2'.at fun o q => (sb.2 _ D.i2z).trans q
    · have hlt : c < s.heap.objs.size := by
        have e' : c = z ∨ c = TI ∨ c = TO ∨ c = i1 ∨ c = i2 := by simpa using hcm
        rcases e' with q | q | q | q | q
        · rw [q]; exact hzl
        · rw [q]; exact Heap.lt_size hTI
        · rw [q]; exact Heap.lt_size hTO
        · rw [q]; obtain ⟨_, e1, _⟩ := h1; exact Heap.lt_size e1
        · rw [q]; obtain ⟨_, e2, _⟩ := h2; exact Heap.lt_size e2
      rw [upd_ne (Nat.ne_of_lt hlt)]
      exact (hf c hcm).1
  done := by
    intro X hP hw hK hc i pins s σ H E I hf st hg
    subst hP hw hK
    obtain ⟨hz, hTI, ⟨x0, y0, hTO⟩, h1, h2⟩ := st
    obtain ⟨xs, ys, hqx, hqy, q1, q2⟩ := hg
    obtain ⟨its, rv, p, _⟩ := I.tuple hqx
    obtain ⟨its2, rv2, p2, _⟩ := I.tuple hqy
    have l1 := rv.length
    have l2 := rv2.length
    refine pyNextS_end (I.ok.hd hc) D hz hTI hTO h1 h2 p p2 (by simp; omega) (by simp; omega) fun h' hk => ⟨rfl, I.turnedL (t' := s.toks) (ch := [z, TI, TO, i1, i2]) (fun c o hb q => ?_) hf⟩
    exact hk c o (fun q' => hb (by simp [q'])) (fun q' => hb (by simp [q'])) (fun q' => hb (by simp [q'])) (fun q' => hb (by simp [q'])) q
  self := fun A i s Q E st h => pyIterS st.1 h
def iZipS (a : MA) : MI := fun l S => (a l S).bind fun ds S1 => match ds with
  | [.tup xs, .tup ys] => if xs.length = ys.length then .ok (fun i _ => match xs[i]?, ys[i]? with
      | some x, some y => some (some (.tup [x, y]))
      | _, _ => some none) S1 else .bad
  | _ => .bad
def iZipSt (K : PySem.W.Frag) (ta : TA) : TI := fun σ H R => ta σ H fun vs H1 => ∃ a b xs ys, vs = [.ref a, .ref b] ∧ SqT K H1 a xs ∧ SqT K H1 b ys ∧ R (ItzS K a b) H1
section
variable {X : Cx} {e e2 : Expr} {ta : TA} {mA : MA} {p pos tpos cp kp : Pos} {elts : List Expr} {kk j : Nat}
theorem pi_zipS (hg : Gl X "zip") (hm : X.mg "zip" = none) (ha : PA X [e, e2] ta) (hpl : (backTo pos (starEach [e, e2] X.env)).any (·.1) = false := by rfl)
    (he : backTo pos (starEach [e, e2] X.env) = (false, eval e X.env) :: backTo pos (starEach [e2] X.env) := by rfl)
    (hall : (backToKw pos (keywordEach [⟨some "strict", .Constant (.bool true) j cp, kp⟩] X.env)).all (·.1.isSome) = true := by rfl) (hnone : (backToKw pos (keywordEach [⟨some "strict", .Constant (.bool true) j cp, kp⟩] X.env)).any (·.1.isNone) = false := by rfl)
    (hks : (backToKw pos (keywordEach [⟨some "strict", .Constant (.bool true) j cp, kp⟩] X.env)).filterMap (·.1) = [Str.ofString "strict"] := by rfl) :
    PI X (.Tuple elts kk tpos) (.Call (.Name "zip" p) [e, e2] [⟨some "strict", .Constant (.bool true) j cp, kp⟩] pos) (iZipSt X.K ta) := by
  refine ⟨fun pins s σ H R I h => ?_⟩
  refine wpAny_Call_Name_kw (ld_blt I hg hm PyProof.Rows.boot_zip ?_)
  have pk : PK X [⟨some "strict", .Constant (.bool true) j cp, kp⟩] (tCons (L2.tC (.bl true)) tNil) := pk_cons pe_bl pk_nil
  -- the call, with the type in the place of a function
  have go : wpAny (model X.prog X.w) X.A (evalArgs (.type "zip") true (backTo pos (starEach [e, e2] X.env)) (backToKw pos (keywordEach [⟨some "strict", .Constant (.bool true) j cp, kp⟩] X.env)))
      (fun a s1 => wpAny (model X.prog X.w) X.A (call (.type "zip") ([] ++ a.pos) a.kw) (fun v s1 => wpAny (model X.prog X.w) X.A (pyIter v) (PIE X pins σ (.Tuple elts kk tpos) R) X.xe s1) X.xe s1) X.xe s := by
    have base := thn (ha.run pos pins s σ H _ I h) (Q' := fun us s1 => wpAny (model X.prog X.w) X.A (evalAll ((backToKw pos (keywordEach [⟨some "strict", .Constant (.bool true) j cp, kp⟩] X.env)).map (·.2))) (fun kvs s2 =>
      wpAny (model X.prog X.w) X.A (call (.type "zip") ([] ++ us) ([Str.ofString "strict"].zip kvs)) (fun v s1 => wpAny (model X.prog X.w) X.A (pyIter v) (PIE X pins σ (.Tuple elts kk tpos) R) X.xe s1) X.xe s2) X.xe s1) fun us s1 ⟨vs, H1, I1, r1, a, b, xs, ys, ex, hqx, hqy, q⟩ => by
        subst ex
        cases r1 with
        | cons r rr =>
          cases rr with
          | cons r' rr =>
            cases rr
            cases r
            cases r'
            refine thn (pk.run pos pins s1 σ H1 (fun vs H2 => vs = [.bl true] ∧ H2 = H1) I1 ⟨rfl, rfl⟩) fun ws s2 ⟨zs, H2, I2, r2, ez, eH⟩ => ?_
            subst ez; subst eH
            cases r2 with
            | cons r3 r4 =>
              cases r4
              cases r3
              obtain ⟨its, rv, p1, _⟩ := I2.tuple hqx
              obtain ⟨its2, rv2, p2, _⟩ := I2.tuple hqy
              obtain ⟨o1, ho1, _⟩ := id p1
              obtain ⟨o2, ho2, _⟩ := id p2
              have fresh5 : ∀ c, c ∈ [s2.heap.objs.size + 4, s2.heap.objs.size + 2, s2.heap.objs.size + 3, s2.heap.objs.size, s2.heap.objs.size + 1] → FpOk X pins H2 c := fun c hcm => by
                have hle : s2.heap.objs.size ≤ c := by
                  simp only [List.mem_cons, List.not_mem_nil, or_false] at hcm
                  omega
                exact I2.fpOk hle (I2.hok.fresh hle)
              refine callS (show s2.heap.IsTuple a its.toArray from p1) (show s2.heap.IsTuple b its2.toArray from p2) fun h' hz hTI hTO h1 h2 hsz hk => pyIterS hz ?_
              have I3 : Inv X pins σ H2 { s2 with heap := h' } := I2.kept (t' := s2.toks) hk
              exact ⟨s2.heap.objs.size + 4, [s2.heap.objs.size + 4, s2.heap.objs.size + 2, s2.heap.objs.size + 3, s2.heap.objs.size, s2.heap.objs.size + 1], _, _, H2, rfl, I3, turn_zipS (PySem.W.ktu_apart s2.heap.objs.size a b (Heap.lt_size ho1) (Heap.lt_size ho2)), ⟨hz, hTI, ⟨_, _, hTO⟩, h1, h2⟩, fresh5, q⟩
    rw [he] at base ⊢
    refine PyProof.Rows.evalArgs_kwB hall ?_
    rw [hks]
    exact base
  unfold callWith
  refine wpAny_bind (wpAny_holding (thn go fun a s1 h1 => wpAny_bind (wpAny_standAt ?_)))
  simp only [hpl, hnone, Bool.or_false]
  refine wpAny_bind (wpAny_pure ?_)
  exact wpAny_bind (thn h1 fun r s2 hr => wpAny_bind (wpAny_holding (wpAny_point (wpAny_pure hr))))
theorem si_zipS (hg : Gl X "zip") (hm : X.mg "zip" = none) (ha : SA X [e, e2] mA) (hpl : (backTo pos (starEach [e, e2] X.env)).any (·.1) = false := by rfl)
    (he : backTo pos (starEach [e, e2] X.env) = (false, eval e X.env) :: backTo pos (starEach [e2] X.env) := by rfl)
    (hall : (backToKw pos (keywordEach [⟨some "strict", .Constant (.bool true) j cp, kp⟩] X.env)).all (·.1.isSome) = true := by rfl) (hnone : (backToKw pos (keywordEach [⟨some "strict", .Constant (.bool true) j cp, kp⟩] X.env)).any (·.1.isNone) = false := by rfl)
    (hks : (backToKw pos (keywordEach [⟨some "strict", .Constant (.bool true) j cp, kp⟩] X.env)).filterMap (·.1) = [Str.ofString "strict"] := by rfl) :
    SI X (.Tuple elts kk tpos) (.Call (.Name "zip" p) [e, e2] [⟨some "strict", .Constant (.bool true) j cp, kp⟩] pos) (iZipS mA) := ⟨fun W tk => by
  refine PI.mono (pi_zipS hg hm (ha.run W tk) hpl he hall hnone hks) fun σ H Rk ⟨R, S, l, r, hl, h⟩ => ?_
  refine ⟨R, S, l, r, hl, (Out.bind h).imp fun ds S1 R1 H1 x1 r1 q vs hvs => ?_⟩
  cases ds with
  | nil => exact False.elim q
  | cons d t =>
    cases t with
    | nil => cases d <;> exact False.elim q
    | cons d2 t =>
      cases t with
      | cons _ _ => cases d <;> cases d2 <;> exact False.elim q
      | nil =>
        obtain ⟨v, u, rfl, hv, hu⟩ := hvs.two
        cases d <;> cases d2 <;> first | exact False.elim q | skip
        rename_i ds es
        obtain ⟨a, xs, rfl, s1, t1⟩ := hv.tupv
        obtain ⟨b, ys, rfl, s2, t2⟩ := hu.tupv
        by_cases z : ds.length = es.length
        · dsimp only at q
          rw [if_pos z] at q
          refine ⟨a, b, xs, ys, rfl, s1, s2, Out.pure q r1 _ fun i R S H x r => ?_⟩
          have s1' := r1.sq x s1
          have s2' := r1.sq x s2
          have t1' := t1.ext r1 x
          have t2' := t2.ext r1 x
          cases z1 : ds[i]? with
          | none =>
            simp only [z1]
            have g1 := List.getElem?_eq_none_iff.mp z1
            exact ⟨xs, ys, s1', s2', by rw [← t1.length]; exact g1, by rw [← t2.length, ← z]; exact g1⟩
          | some d =>
            cases z2 : es[i]? with
            | none =>
              exact absurd (List.getElem?_eq_some_iff.mp z1).1 (by rw [z]; exact Nat.not_lt.mpr (List.getElem?_eq_none_iff.mp z2))
            | some e =>
              simp only [z1, z2]
              obtain ⟨x1, k1, k2⟩ := t1'.get z1
              obtain ⟨y1, k3, k4⟩ := t2'.get z2
              refine ⟨⟨xs, ys, x1, y1, s1', s2', k1, k3⟩, fun w H' hy => ?_⟩
              obtain ⟨T, x2, y2, e1, e2, e3, e4, e5⟩ := hy
              subst e1; subst e3
              have q1 := e4 xs s1'
              rw [k1] at q1; cases q1
              have q2 := e5 ys s2'
              rw [k3] at q2; cases q2
              exact ⟨.fresh e2, r.fresh e2, .tup (.of upd_same) (.cons (k2.ext r (.fresh e2)) (.cons (k4.ext r (.fresh e2)) .nil))⟩
        · dsimp only at q
          rw [if_neg z] at q; exact False.elim q⟩
end
end SL
set_option Elab.async false
set_option linter.all false
set_option maxRecDepth 100000
namespace SL
open PySem PySem.Spec PyProof.Rows L2

/-! ### the rules as the printed proofs use them -/
structure Ge (X : Cx) (k : Nat) : Prop where
  hc : X.calm = true
  hr : Room k X.A
  nd : X.N.Nodup
structure Gd (X : Cx) (k : Nat) : Prop extends Ge X k where
  po : PassesOwn (model X.prog X.w) X.A X.env X.xe
section
variable {X : Cx} {k : Nat}
theorem Ge.hu (g : Ge X k) : X.A.units + 66 < cLine := by have := g.hr.un; omega
theorem Ge.h64 (g : Ge X k) : X.A.units + 64 < cLine := by have := g.hu; omega
theorem Ge.h0 (g : Ge X k) : X.A.units < cLine := by have := g.hu; omega
theorem Ge.tr (g : Ge X k) (pn : List (Addr × Obj)) (xe : Value → Shared → Prop) : Ge (X.tr pn xe) k := ⟨g.hc, g.hr, g.nd⟩
theorem Ge.blk (g : Ge X k) {s : Shared} {H : Hp} {scope : Scope} {ce : Env} {fp : List Addr} : Ge (X.blk s H scope ce fp) k := ⟨g.hc, g.hr, g.nd⟩
end
def oPlus : Op2 := altO2 oAdd (altO2 oCatT oCatL)
def oEQ : Op2 := altO2 (oEqS false) (altO2 (oEmp false) (oEmpT false))
def oNE : Op2 := altO2 (oEqS true) (oEmp true)
def oIN : Op2 := altO2 (oIn false) (altO2 (oInK false) (altO2 (oInN false) oInStr))
def oNI : Op2 := altO2 (oIn true) (altO2 (oInK true) (oInN true))
def oIX : Op2 := altO2 oIxT (altO2 oIxL (altO2 oIxK oIxN))
def oSL : OpS := altOS oSlT oSlL
def oSRT : OpN := altO1 oSorted oSortedN
section
variable {X : Cx} {k : Nat}
theorem r_plus : OpR X (binaryOp .Add) (liftO2 X oPlus) := SL.OpR.alt s_add (SL.OpR.alt s_catT s_catL)
theorem r_eq (g : Ge X k) : OpR X (compareOp .Eq) (liftO2 X oEQ) := SL.OpR.alt (s_eqS g.h64) (SL.OpR.alt (s_emp g.h0) (s_empT g.h0))
theorem r_ne (g : Ge X k) : OpR X (compareOp .NotEq) (liftO2 X oNE) := SL.OpR.alt (s_neS g.h64) (s_nemp g.h0)
theorem r_in (g : Ge X k) : OpR X (compareOp .In) (liftO2 X oIN) := SL.OpR.alt s_in (SL.OpR.alt (s_inK g.h64) (SL.OpR.alt (s_inN g.h64) s_inStr))
theorem r_ni (g : Ge X k) : OpR X (compareOp .NotIn) (liftO2 X oNI) := SL.OpR.alt s_notIn (SL.OpR.alt (s_notInK g.h64) (s_notInN g.h64))
theorem r_ix (g : Ge X k) : IxR X (liftO2 X oIX) := SL.IxR.alt s_ixT (SL.IxR.alt s_ixL (SL.IxR.alt (s_ixK g.h64) (s_ixN g.h64)))
theorem r_sl : SlR X (liftOS X oSL) := SL.SlR.alt s_slT s_slL
theorem r_srt (g : Ge X k) : CallR X (.builtin "sorted") (liftON X oSRT) := SL.CallR.alt (s_sorted g.hu) (s_sortedN g.hc g.hu)
variable {pos : Pos}
theorem v {i : Nat} {x : Str} (hN : X.N[i]? = some x := by rfl) (hv : Vis X.env.scope x := by first | exact .inl rfl | exact .inr (.inl rfl) | exact .inr (.inr rfl)) (hd : (x == ("__debug__" : Str)) = false := by rfl) (hcd : (x == ("__classdict__" : Str)) = false := by rfl) : SE X (.Name x pos) (eVar i) := se_var hN hv hd hcd
theorem setv {i : Nat} {x : Str} {e : Expr} {me : ME} {pos' : Pos} (g : Ge X k) (he : SE X e me) (hi : X.N[i]? = some x := by rfl) (hx : L2.Loc X.env.scope x := by first | exact .inl rfl | exact .inr rfl)
    (hs : swapsWith e (some (.Name x pos')) pos.line X.env = pure false := by rfl) (hf : X.fn x = true ∨ X.env.scope.names.lookup x = some .local := by first | exact .inl rfl | exact .inr rfl) : SS X (.Assign [.Name x pos'] e pos) (sSet i me) := ss_set g.nd hi hx he hs hf
theorem tgv {i : Nat} {x : Str} (g : Ge X k) (hi : X.N[i]? = some x := by rfl) (hx : L2.Loc X.env.scope x := by first | exact .inl rfl | exact .inr rfl) (hf : X.fn x = true ∨ X.env.scope.names.lookup x = some .local := by first | exact .inl rfl | exact .inr rfl) : SG X (.Name x pos) (.nm i) := sg_name g.nd hi hx hf
/-- a walk over a list, a tuple, a text, a locked dict's keys -/
def iANY (a : ME) : MI := altI (iSeq a) (altI (iLst a) (altI (iChars a) (altI (iKeysL a) (altI (iKeysLN a) (iKeysLR a)))))
theorem i_any {tg e : Expr} {me : ME} (he : SE X e me) : SI X tg e (iANY me) := SI.alt (si_tup he) (SI.alt (si_lst he) (SI.alt (si_str he) (SI.alt (si_keysL he) (SI.alt (si_keysLN he) (si_keysLR he)))))
def selOf (m : ME) : Loc → Sto → Option Nat := fun l S => match m l S with
  | .ok (.ref n) _ => some n
  | _ => none
/-- try: body, which raises nothing -/
def sTryN (b : MS) : MS := fun l S => noErr (b l S)
theorem ss_tryN {x n : Str} {i : Nat} {body suite : List Stmt} {b0 : Stmt} {np pos' : Pos} {c : Value} {mb : MS} (g : Ge X k) (hs : X.stack = X.env :: X.outer) (hf : X.env.frame = some X.env.locals) (hi : X.N[i]? = some n) (hln : X.env.kindOf n = some .local) (hc : Names X x c)
    (hb : ∀ (pn : List (Addr × Obj)) (xe : Value → Shared → Prop), PassesOwn (model X.prog X.w) X.A X.env xe → SSs (X.tr pn xe) body mb) :
    SS X (.Try body [.ExceptHandler (some (.Name x np)) (some n) (b0 :: suite) pos'] [] [] pos) (sTryN mb) := ⟨fun W tk => by
  refine PS.mono (ps_try_as (tb := fun W => liftS X mb W) (ts := fun _ _ _ => tNever) hs hf g.nd hi hln hc tk (fun W pn xe tk' po => (hb pn xe po).run W tk') (fun a oe cls d pn _ _ => pss_never)) fun Dn σ H ⟨R, S, l, r, hl, h⟩ => ?_
  exact ⟨R, S, l, r, hl, noErr_out h⟩⟩
end
section
variable {X : Cx} {k : Nat} {elt tg iter : Expr} {ifs : List Expr} {scope : Scope} {own : List (Str × Nat)} {pos spos : Pos} {mi : MI} {t : Tg} {mt : MT} {me : ME} {n : Nat}
theorem lcG (g : Ge X k) (hi : SI X tg iter mi) (ok : BlkOk X.N X.env.scope scope own)
    (hg : ∀ (s : Shared) (H : Hp) (C : Addr) (cl : List (Str × Addr)) (fp : List Addr), Ge (X.blk s H scope (compEnvC scope cl C X.env) fp) k → SG (X.blk s H scope (compEnvC scope cl C X.env) fp) tg t) (ht : ∀ (s : Shared) (H : Hp) (C : Addr) (cl : List (Str × Addr)) (fp : List Addr), Ge (X.blk s H scope (compEnvC scope cl C X.env) fp) k → STs (X.blk s H scope (compEnvC scope cl C X.env) fp) ifs mt)
    (he : ∀ (s : Shared) (H : Hp) (C : Addr) (cl : List (Str × Addr)) (fp : List Addr), Ge (X.blk s H scope (compEnvC scope cl C X.env) fp) k → SE (X.blk s H scope (compEnvC scope cl C X.env) fp) elt me) (hsl : t.slots.all (fun i => (own.map (·.2)).contains i) = true := by rfl) (hs : ∀ x, foldedSetIterable iter X.env x = pure x := by intro _; rfl) :
    SE X (.ListComp elt [⟨tg, iter, ifs, 0⟩] scope pos) (eLc n mi t mt me (own.map (·.2))) := se_lc g.hc g.nd hi ok (fun s H C cl fp => hg s H C cl fp g.blk) (fun s H C cl fp => ht s H C cl fp g.blk) (fun s H C cl fp => he s H C cl fp g.blk) hsl hs
theorem setLcG {i : Nat} {y : Str} {py : Pos} (g : Ge X k) (hi : SI X tg iter mi) (ok : BlkOk X.N X.env.scope scope own)
    (hg : ∀ (s : Shared) (H : Hp) (C : Addr) (cl : List (Str × Addr)) (fp : List Addr), Ge (X.blk s H scope (compEnvC scope cl C X.env) fp) k → SG (X.blk s H scope (compEnvC scope cl C X.env) fp) tg t) (ht : ∀ (s : Shared) (H : Hp) (C : Addr) (cl : List (Str × Addr)) (fp : List Addr), Ge (X.blk s H scope (compEnvC scope cl C X.env) fp) k → STs (X.blk s H scope (compEnvC scope cl C X.env) fp) ifs mt)
    (he : ∀ (s : Shared) (H : Hp) (C : Addr) (cl : List (Str × Addr)) (fp : List Addr), Ge (X.blk s H scope (compEnvC scope cl C X.env) fp) k → SE (X.blk s H scope (compEnvC scope cl C X.env) fp) elt me) (hy : X.N[i]? = some y := by rfl) (hyl : X.env.scope.names.lookup y = some .local := by rfl)
    (hsw : swapsWith (.ListComp elt [⟨tg, iter, ifs, 0⟩] scope pos) (some (.Name y py)) spos.line X.env = pure true := by exact sw_true rfl rfl rfl rfl) (hsl : t.slots.all (fun i => (own.map (·.2)).contains i) = true := by rfl) (hs : ∀ x, foldedSetIterable iter X.env x = pure x := by intro _; rfl) :
    SS X (.Assign [.Name y py] (.ListComp elt [⟨tg, iter, ifs, 0⟩] scope pos) spos) (sSet i (eLc n mi t mt me (own.map (·.2)))) := ss_setLc g.hc g.nd hy hyl hsw hi ok (fun s H C cl fp => hg s H C cl fp g.blk) (fun s H C cl fp => ht s H C cl fp g.blk) (fun s H C cl fp => he s H C cl fp g.blk) hsl hs
end
end SL
set_option Elab.async false
set_option linter.all false
set_option maxRecDepth 100000
namespace SL
open PySem PySem.Spec PyProof.Rows L2

/-! ### facts of the written part, as Bools -/
theorem oexB_ok {K : PySem.W.Frag} {C : Addr} (h : oexB K C = true) : OexC K C := by
  unfold oexB at h
  simp only [Bool.and_eq_true, decide_eq_true_eq] at h
  obtain ⟨h1, h2, h3, h4, h5⟩ := h
  refine ⟨?_, of_decide_eq_true h2, h3, h4, h5⟩
  cases q : K.lookup C with
  | none => rw [q] at h1; cases h1
  | some o =>
    obtain ⟨oc, od, dt, sl⟩ := o
    rw [q] at h1
    cases oc with
    | type c =>
      cases dt with
      | cls cd =>
        simp only [Bool.and_eq_true, decide_eq_true_eq] at h1
        obtain ⟨rfl, h1⟩ := h1
        obtain ⟨nm, bs, mro, ns, qn, hd, sn, sb, ab, col, del⟩ := cd
        obtain ⟨sl⟩ := sl
        split at h1
        · rename_i C' bm k0 k1 k2 k3 n k5 e1 e2
          simp only [Bool.and_eq_true, decide_eq_true_eq, Bool.not_eq_true'] at h1
          obtain ⟨rfl, rfl, h6, h7, h8⟩ := h1
          dsimp only at e1 e2 h6 h7
          subst e1 e2 h6 h7
          exact ⟨nm, qn, ns, bs, bm, sn, sb, ab, col, od, k0, k1, k2, k3, k5, rfl, h8⟩
        · cases h1
      | _ => cases h1
    | _ => cases dt <;> cases h1
theorem weB_ok {K : PySem.W.Frag} {B : Str} (h : weB K B = true) : WeOk K B := by
  unfold weB at h
  simp only [Bool.and_eq_true] at h
  obtain ⟨h1, h2, h3⟩ := h
  refine ⟨of_decide_eq_true h1, h2, ?_⟩
  split at h3
  · rename_i n e
    rw [e, of_decide_eq_true h3]
  · cases h3
theorem mkbB_ok {K : PySem.W.Frag} {C : Str} (h : mkbB K C = true) : MkB K C := by
  unfold mkbB at h
  simp only [Bool.and_eq_true] at h
  exact ⟨h.1, of_decide_eq_true h.2.1, h.2.2⟩
theorem insB_ok {K : PySem.W.Frag} {C : Str} (c : Cls K (He.ga K C)) (h : insB K C = true) : InsOk K C := by
  unfold insB at h
  simp only [Bool.and_eq_true, decide_eq_true_eq] at h
  exact ⟨c, of_decide_eq_true h.1, of_decide_eq_true h.2.1, h.2.2.1, h.2.2.2⟩
theorem isiB_ok {K : PySem.W.Frag} {t : IsTab} (c : ∀ q ∈ t.ins, Cls K (He.ga K q.1)) (h : isiB K t = true) : t.Ok K := by
  unfold isiB at h
  obtain ⟨h1, h2⟩ := Bool.and_eq_true_iff.mp h
  refine ⟨fun q hq => ?_, fun q hq => of_decide_eq_true (List.all_eq_true.mp h2 q hq)⟩
  obtain ⟨k1, k2⟩ := Bool.and_eq_true_iff.mp (List.all_eq_true.mp h1 q hq)
  exact ⟨insB_ok (c q hq) k1, of_decide_eq_true k2⟩
/-- the class's __init__ is the def there -/
theorem iniB_ok {K : PySem.W.Frag} {C : Str} (h : iniB K C = true) : PySem.W.findIn K (.ref (He.ga K C)) "__init__" = some (some (.ref (He.ma K (He.ga K C) "__init__"))) ∧ PySem.W.typeIn K (.ref (He.ma K (He.ga K C) "__init__")) = some (.type "function") := by
  obtain ⟨h1, h2⟩ := Bool.and_eq_true_iff.mp h
  exact ⟨of_decide_eq_true h1, of_decide_eq_true h2⟩
/-- a module's name is that datum -/
theorem gldB_ok {K : PySem.W.Frag} {h : Heap} {mg : Str → Option Value} (X : K.In h) (G : h.Ns mainGlobals mg) {x : Str} {d : D} (q : gldB K x d = true) : ∃ u, mg x = some u ∧ dvB K d u = true := by
  unfold gldB at q
  cases e : PySem.W.nsIn K mainGlobals x with
  | none => rw [e] at q; cases q
  | some o =>
    rw [e] at q
    cases o with
    | none => cases q
    | some u => exact ⟨u, PySem.W.mg_of X G e, q⟩
/-! the built-in names -/
theorem bt_len : bootBuiltins ("len" : Str) = some (.builtin "len") := by kernel_rfl
theorem bt_isinstance : bootBuiltins ("isinstance" : Str) = some (.builtin "isinstance") := by kernel_rfl
theorem bt_all : bootBuiltins ("all" : Str) = some (.builtin "all") := by kernel_rfl
theorem bt_sorted : bootBuiltins ("sorted" : Str) = some (.builtin "sorted") := by kernel_rfl
theorem bt_int : bootBuiltins ("int" : Str) = some (.type "int") := by kernel_rfl
theorem bt_bool : bootBuiltins ("bool" : Str) = some (.type "bool") := by kernel_rfl
theorem bt_str : bootBuiltins ("str" : Str) = some (.type "str") := by kernel_rfl
theorem bt_tuple : bootBuiltins ("tuple" : Str) = some (.type "tuple") := by kernel_rfl
theorem bt_list : bootBuiltins ("list" : Str) = some (.type "list") := by kernel_rfl
theorem bt_dict : bootBuiltins ("dict" : Str) = some (.type "dict") := by kernel_rfl
end SL
set_option Elab.async false
set_option linter.all false
set_option maxRecDepth 100000
namespace SL
open PySem PySem.Spec PyProof.Rows L2

/-! ### a prefix of the store that names nothing behind it -/
mutual
def D.und (n : Nat) : D → Bool
  | .ref m => decide (m < n)
  | .tup ds => D.unds n ds
  | _ => true
def D.unds (n : Nat) : List D → Bool
  | [] => true
  | d :: ds => D.und n d && D.unds n ds
end
def OB.und (n : Nat) : OB → Bool
  | .lst ds => D.unds n ds
  | .dK kvs => kvs.all fun p => D.und n p.2
  | .dN kvs => kvs.all fun p => D.und n p.1 && D.und n p.2
  | .ins _ fs => fs.all fun p => D.und n p.2
  | .lk kvs => kvs.all fun p => D.und n p.2
  | .lkN kvs => kvs.all fun p => D.und n p.1 && D.und n p.2
  | .raw ks => D.unds n ks
  | .lkR ks => D.unds n ks
  | .fz ks => D.unds n ks
section
variable {P : Program} {w : World} {K : PySem.W.Frag} {R : List Addr} {S : Sto} {H : Hp} {n : Nat}
mutual
theorem DV.cut : ∀ {d : D} {v : V}, DV K R H d v → D.und n d = true → DV K (R.take n) H d v
  | _, _, .non, _ => .non
  | _, _, .bl b, _ => .bl b
  | _, _, .int i, _ => .int i
  | _, _, .str x, _ => .str x
  | _, _, .ty n, _ => .ty n
  | _, _, .gl x, _ => .gl x
  | _, _, .ref h, e => .ref (by rw [List.getElem?_take_of_lt (of_decide_eq_true (by simpa [D.und] using e))]; exact h)
  | _, _, .tup h t, e => .tup h (DVs.cutN t (by simpa [D.und] using e))
theorem DVs.cutN : ∀ {ds : List D} {vs : List V}, DVs K R H ds vs → D.unds n ds = true → DVs K (R.take n) H ds vs
  | _, _, .nil, _ => .nil
  | _, _, .cons r t, e => by
    unfold D.unds at e
    obtain ⟨e1, e2⟩ := Bool.and_eq_true_iff.mp e
    exact .cons (DV.cut r e1) (DVs.cutN t e2)
end
theorem PD.cut {κ : Type} : ∀ {l : List (κ × D)} {l' : List (κ × V)}, PD K R H l l' → (l.all fun p => D.und n p.2) = true → PD K (R.take n) H l l'
  | _, _, .nil, _ => .nil
  | _, _, .cons h t, e => by
    rw [List.all_cons, Bool.and_eq_true] at e
    exact .cons ⟨h.1, h.2.cut e.1⟩ (PD.cut t e.2)
theorem EntN.cut : ∀ {l : List (D × D)} {l' : List (NestedKey × Addr × Value)}, Paired (EntN w K R H) l l' → (l.all fun p => D.und n p.1 && D.und n p.2) = true → Paired (EntN w K (R.take n) H) l l'
  | _, _, .nil, _ => .nil
  | _, _, .cons h t, e => by
    rw [List.all_cons, Bool.and_eq_true, Bool.and_eq_true] at e
    obtain ⟨h1, h2, h3, v, h4, h5⟩ := h
    exact .cons ⟨h1, h2, h3.cut e.1.1, v, h4.cut e.1.2, h5⟩ (EntN.cut t e.2)
theorem ObR.cut {a : Addr} {o : OB} (h : ObR P w K R H a o) (e : o.und n = true) : ObR P w K (R.take n) H a o := by
  cases o with
  | lst ds => obtain ⟨vs, h1, h2⟩ := h; exact ⟨vs, h1, h2.cutN e⟩
  | dK kvs => obtain ⟨vs, h1, h2⟩ := h; exact ⟨vs, h1, h2.cut e⟩
  | dN kvs => obtain ⟨o, es, ep, xs, h1, h2, h3, h4, h5, h6, h7⟩ := h; exact ⟨o, es, ep, xs, h1, h2, h3, h4, h5, h6, EntN.cut h7 e⟩
  | ins C fs => obtain ⟨dx, fs', h1, h2⟩ := h; exact ⟨dx, fs', h1, h2.cut e⟩
  | lk kvs => obtain ⟨o, vs, h1, h2⟩ := h; exact ⟨o, vs, h1, h2.cut e⟩
  | fz ds => obtain ⟨o, vs, h1, h2⟩ := h; exact ⟨o, vs, h1, h2.cutN e⟩
  | lkN kvs => obtain ⟨o, es, ep, xs, h1, h2, h3, h4, h5, h6, h7⟩ := h; exact ⟨o, es, ep, xs, h1, h2, h3, h4, h5, h6, EntN.cut h7 e⟩
  | raw ks => obtain ⟨o, es, ep, vs, h1, h2, h3, h4, h5, h6⟩ := h; exact ⟨o, es, ep, vs, h1, h2, h3, h4, h5, h6.cutN e⟩
  | lkR ks => obtain ⟨o, es, ep, vs, h1, h2, h3, h4, h5, h6⟩ := h; exact ⟨o, es, ep, vs, h1, h2, h3, h4, h5, h6.cutN e⟩
theorem Rel.take (r : Rel P w K R S H) (n : Nat) (e : (S.take n).all (OB.und n) = true) : Rel P w K (R.take n) (S.take n) H := by
  refine ⟨by rw [List.length_take, List.length_take, r.len], r.nd.sublist (List.take_sublist _ _), r.tab, fun m a o h1 h2 => ?_⟩
  have hm : m < n := by
    have q := (List.getElem?_eq_some_iff.mp h2).1
    rw [List.length_take] at q
    omega
  rw [List.getElem?_take_of_lt hm] at h1
  have hb := List.all_eq_true.mp e o (List.mem_of_getElem? h2)
  rw [List.getElem?_take_of_lt hm] at h2
  exact (r.ob m a o h1 h2).cut hb
end

/-! ### *, //, %, ** of ints; list * int -/
def oMulI : Op2 := fun d e S => match d, e with
  | .int i, .int j => if (-18446744073709551616 < i ∧ i < 18446744073709551616) ∨ (-18446744073709551616 < j ∧ j < 18446744073709551616) then some (.int (i * j), S) else none
  | _, _ => none
def oRep : Op2 := fun d e S => match d, e with
  | .ref n, .int j => match S[n]? with
    | some (.lst ds) => if 0 ≤ j ∧ j < 1000 ∧ ds.length < 1000 then some (.ref S.length, S ++ [.lst (List.replicate j.toNat ds).flatten]) else none
    | _ => none
  | _, _ => none
def oMul : Op2 := altO2 oMulI oRep
def oFdv : Op2 := fun d e S => match d, e with
  | .int i, .int j => if 0 < j ∧ j < 1073741824 then some (.int (i / j), S) else none
  | _, _ => none
def oMod : Op2 := fun d e S => match d, e with
  | .int i, .int j => if 0 < j then some (.int (i % j), S) else none
  | _, _ => none
def oPow : Op2 := fun d e S => match d, e with
  | .int i, .int j => if 0 ≤ j ∧ j ≤ 1000000 ∧ i.natAbs < 18446744073709551616 then some (.int (i ^ j.toNat), S) else none
  | _, _ => none
section
variable {X : Cx}
theorem s_fdv : OpR X (binaryOp .FloorDiv) (liftO2 X oFdv) := by
  refine OpR.mono op_fdiv fun x y H Q ⟨R, S, d, e, r, hd, he, q⟩ => ?_
  cases d <;> cases e <;> first | exact False.elim q | skip
  rename_i i j
  by_cases z : 0 < j ∧ j < 1073741824
  · simp only [oFdv, z, and_self, if_true] at q
    exact ⟨i, j, hd.intv, he.intv, z, OutO.pure q r _ (.int _)⟩
  · simp only [oFdv, z] at q; exact False.elim q
theorem s_mod : OpR X (binaryOp .Mod) (liftO2 X oMod) := by
  refine OpR.mono op_mod fun x y H Q ⟨R, S, d, e, r, hd, he, q⟩ => ?_
  cases d <;> cases e <;> first | exact False.elim q | skip
  rename_i i j
  by_cases z : 0 < j
  · simp only [oMod, z, if_true] at q
    exact ⟨i, j, hd.intv, he.intv, z, OutO.pure q r _ (.int _)⟩
  · simp only [oMod, z] at q; exact False.elim q
theorem s_pow : OpR X (binaryOp .Pow) (liftO2 X oPow) := by
  refine OpR.mono op_pow fun x y H Q ⟨R, S, d, e, r, hd, he, q⟩ => ?_
  cases d <;> cases e <;> first | exact False.elim q | skip
  rename_i i j
  by_cases z : 0 ≤ j ∧ j ≤ 1000000 ∧ i.natAbs < 18446744073709551616
  · simp only [oPow, z, and_self, if_true] at q
    exact ⟨i, j, hd.intv, he.intv, z, OutO.pure q r _ (.int _)⟩
  · simp only [oPow, z] at q; exact False.elim q
theorem DVs.rep {K : PySem.W.Frag} {R : List Addr} {H : Hp} {ds : List D} {vs : List V} (h : DVs K R H ds vs) : ∀ k : Nat, DVs K R H (List.replicate k ds).flatten (List.replicate k vs).flatten
  | 0 => .nil
  | k + 1 => by
    rw [List.replicate_succ, List.replicate_succ, List.flatten_cons, List.flatten_cons]
    exact h.append (DVs.rep h k)
theorem s_mulI : OpR X (binaryOp .Mult) (liftO2 X oMulI) := by
  refine OpR.mono op_mul fun x y H Q ⟨R, S, d, e, r, hd, he, q⟩ => ?_
  cases d <;> cases e <;> first | exact False.elim q | skip
  rename_i i j
  by_cases z : (-18446744073709551616 < i ∧ i < 18446744073709551616) ∨ (-18446744073709551616 < j ∧ j < 18446744073709551616)
  · simp only [oMulI, if_pos z] at q
    refine ⟨i, j, hd.intv, he.intv, ?_, OutO.pure q r _ (.int _)⟩
    have e64 : ((2 : Int) ^ 64) = 18446744073709551616 := by decide
    unfold CMul
    rw [e64]
    exact z
  · simp only [oMulI, if_neg z] at q; exact False.elim q
theorem s_rep : OpR X (binaryOp .Mult) (liftO2 X oRep) := by
  refine OpR.mono op_rep fun x y H Q ⟨R, S, d, e, r, hd, he, q⟩ => ?_
  cases d <;> cases e <;> first | exact False.elim q | skip
  rename_i n j
  obtain ⟨a, rfl, hn⟩ := hd.refv
  unfold oRep at q
  cases q1 : S[n]? with
  | none => simp only [q1] at q; exact False.elim q
  | some o =>
    simp only [q1] at q
    cases o <;> first | exact False.elim q | skip
    rename_i ds
    obtain ⟨vs, h1, h2⟩ := r.ob n a _ hn q1
    by_cases z : 0 ≤ j ∧ j < 1000 ∧ ds.length < 1000
    · simp only [if_pos z] at q
      refine ⟨a, j, vs, rfl, he.intv, h1, by omega, by omega, ?_, fun p hp => ?_⟩
      · rw [← h2.length, sizeLine_eq]
        have h3 : j.toNat ≤ 1000 := by omega
        have h4 : ds.length * j.toNat ≤ 1000 * 1000 := Nat.mul_le_mul (by omega) h3
        omega
      · exact q _ _ (Ext.push hp) (r.push hp ⟨_, upd_same, (h2.rep _).ext r (Ext.push hp)⟩) _ (.ref (get_last r))
    · simp only [if_neg z] at q; exact False.elim q
theorem s_mul : OpR X (binaryOp .Mult) (liftO2 X oMul) := SL.OpR.alt s_mulI s_rep
end

/-! ### xs[i] = v -/
def sPutL (o i v : ME) : MS := fun l S => (v l S).bind fun e S1 => (o l S1).bind fun d S2 => (i l S2).bind fun k S3 => match d, k with
  | .ref n, .int k => match S3[n]? with
    | some (.lst ds) => match ixN ds.length k with
      | some j => .ok (.nx, l) (S3.set n (.lst (ds.set j e)))
      | none => .bad
    | _ => .bad
  | _, _ => .bad
section
variable {X : Cx} {o i v : Expr} {mo mi mv : ME} {pos pos' : Pos}
theorem ss_putL (ho : SE X o mo) (hi : SE X i mi) (hv : SE X v mv) (hs : swapsWithSole [.Subscript o i pos'] v pos.line X.env = pure false := by rfl) (hw : swappedStores [.Subscript o i pos'] v X.env = pure none := by rfl)
    (h1 : (assignEach [.Subscript o i pos'] X.env).map (·.2) = [assign (.Subscript o i pos') X.env] := by rfl)
    (ha : ∀ v, assign (.Subscript o i pos') X.env v = (do
      let ov ← holding [v] (eval o X.env)
      let iv ← holding [v, ov] (eval i X.env)
      standAt pos'
      holding [v, ov, iv] (setItem ov iv v)
      release [v, ov, iv] []) := by intro _; rfl) : SS X (.Assign [.Subscript o i pos'] v pos) (sPutL mo mi mv) := ⟨fun W tk => by
  refine PS.mono (ps_asg (hv.run W tk) (pg_sub (ho.run W tk) (hi.run W tk) set_list ha) hs hw h1) fun Dn σ H h => ?_
  refine liftS.bind2 (f := fun l e d S2 => (mi l S2).bind fun k S3 => match d, k with
    | .ref n, .int k => match S3[n]? with
      | some (.lst ds) => match ixN ds.length k with
        | some j => .ok (.nx, l) (S3.set n (.lst (ds.set j e)))
        | none => .bad
      | _ => .bad
    | _, _ => .bad) h fun R S l e d u v H' r hl he hd q => ?_
  refine ⟨R, S, l, r, hl, (Out.bind q).impW (fun k S1 R1 H1 x1 r1 q5 y hy => ?_) fun _ _ _ q => q σ⟩
  cases d <;> first | (cases k <;> exact False.elim q5) | skip
  rename_i n
  cases k <;> first | exact False.elim q5 | skip
  rename_i k
  obtain ⟨b, rfl, hn⟩ := hd.refv
  have hn1 := x1.get hn
  cases q1 : S1[n]? with
  | none => simp only [q1] at q5; exact False.elim q5
  | some ob =>
    simp only [q1] at q5
    cases ob <;> first | exact False.elim q5 | skip
    rename_i ds
    obtain ⟨vs, g1, g2⟩ := r1.ob n b _ hn1 q1
    cases q2 : ixN ds.length k with
    | none => simp only [q2] at q5; exact False.elim q5
    | some j =>
      simp only [q2] at q5
      have he1 := he.ext r x1
      refine ⟨b, vs, k, j, rfl, hy.intv, g1, by rw [← g2.length]; exact q2, ?_⟩
      have xx : Ext R1 H1 R1 (upd H1 b (.lst (vs.set j u))) := Ext.write (List.mem_of_getElem? hn1) g1 rfl
      exact q5 R1 _ xx (r1.write hn1 g1 rfl ⟨_, upd_same, (g2.set he1 j).ext r1 xx⟩) σ ((hl.ext r x1).ext r1 xx)⟩
end
end SL
set_option Elab.async false
set_option linter.all false
set_option maxRecDepth 100000
namespace SL
open PySem PySem.Spec PyProof.Rows L2 L2H

/-! ### defs that are called within an except suite, and neither raise nor loop; p: the exception that is handled -/
structure FnP (P : Program) (w : World) (K : PySem.W.Frag) (mg : Str → Option Value) (base : Heap) (k : Nat) (f : Addr) (fd : FuncData) (ps : List Str) (sp : Addr × Obj → Sp) : Prop where
  len : ∀ p vs H Q E, sp p vs H Q E → vs.length = ps.length
  run : ∀ (A : Around) (outer : List Env) (s : Shared) (H : Hp) (args : Args) (us : List Value) (vs : List V) (Q : VK) (E : XK) (p : Addr × Obj), RoomH k A → PinOk outer H s p → Env0 P w K mg base A outer s H → BindsTo s fd args (ps.zip us) → Vals vs us → sp p vs H Q E →
    codeAny (model P w) A (.call (.ref f) args) (CR (L2.CX P w) outer P w H s Q E) s
section
variable {P : Program} {w : World} {K : PySem.W.Frag} {mg : Str → Option Value} {base : Heap} {k : Nat} {f : Addr} {name qual : Str} {params : Arguments} {body : List Stmt} {scope : Scope} {dvs : List V} {kws : List (Str × V)} {fd : FuncData} {N ps : List Str} {sp : Addr × Obj → Sp}
theorem fnP_of (F : FunD K name qual params body scope dvs kws f fd) (S : FnScope N ps scope) (len : ∀ p vs H Q E, sp p vs H Q E → vs.length = ps.length)
    (hbody : ∀ (cdv : Value) (A : Around) (outer : List Env) (s : Shared) (H : Hp) (vs : List V) (Q : VK) (E : XK) (p : Addr × Obj), RoomH k (A.deeper (envOfC qual scope s.heap.objs.size f cdv)) → sp p vs H Q E →
      ∃ t, PSs (cxH (L2.CX P w) P w K mg base N qual scope f cdv A outer s H E p) body t ∧ t { nx := fun _ H' => Q .non H', rt := Q } (L2.start N vs) H) : FnP P w K mg base (k + 1) f fd ps sp := by
  obtain ⟨oc, od, dV, kV, doc, pm, an, cdv, ct, osl, rfl, lk, hcd, _, _⟩ := F.ex
  refine ⟨len, fun A outer s H args us vs Q E p hr hpin e0 hb r hsp => ?_⟩
  have hl := len _ _ _ _ _ hsp
  have KX : K.In s.heap := e0.mod.kin.keeps fun b o e => (e0.bs b o e).1
  have lim : s.heap.NoLimit := e0.mod.nolimit.keeps fun b o e => (e0.bs b o e).1
  have hkind : ∀ y ∈ ps.zip us, scope.names.lookup y.1 = some .local ∨ (scope.names.lookup y.1 = some .cell ∧ ((cellsFrom (s.heap.objs.size + 1) scope.names []).lookup y.1).isSome = true) := fun ⟨n, v⟩ hy => by
    rcases S.par n (List.of_mem_zip hy).1 with q | q
    · exact .inl q
    · exact .inr ⟨q, PySem.W.cellsFrom_some _ _ _ (.inl q)⟩
  refine codeAny_call_function hr.depth (KX _ _ lk) rfl S.co S.gen rfl (PySem.W.codeRec_of KX hcd) (hb _ _ _ _ ?_)
  refine wpAny_newFunctionEnv_cells S.kind hkind fun env he s1 x => ?_
  subst he
  refine ⟨lim.keeps x.toInCall.keep, codeAny_func ?_⟩
  obtain ⟨t, ht, hq⟩ := hbody cdv A outer s H vs Q E p (hr.deeper _) hsp
  have I : Inv (cxH (L2.CX P w) P w K mg base N qual scope f cdv A outer s H E p) [] (L2.start N vs) H s1 := inv_startH S hpin e0 hl r x
  refine wpAny_mono (ht.run [] s1 (L2.start N vs) H _ I hq) (fun fl s' hs => ?_) fun e s' hs => hs
  have fin : ∀ {σ' : L2.St} {H' : Hp} {v : V} {u : Value}, Inv (cxH (L2.CX P w) P w K mg base N qual scope f cdv A outer s H E p) [] σ' H' s' → RelV v u → Q v H' → CE outer P w H s Q u s' :=
    fun {σ' H' v u} J rv q => ⟨v, H', J.os, J.bare, J.base, J.hok, rv, q⟩
  cases fl with
  | ret u =>
    obtain ⟨v, σ', H', J, rv, q⟩ := hs
    exact fin J rv q
  | next =>
    obtain ⟨σ', H', J, q⟩ := hs
    exact fin (v := V.non) (u := Value.none) J rfl q
  | brk =>
    obtain ⟨_, _, _, q⟩ := hs
    exact False.elim q
  | cont =>
    obtain ⟨_, _, _, q⟩ := hs
    exact False.elim q
end
section
variable {X : Cx} {k : Nat} {f : Addr} {fd : FuncData} {ps : List Str} {sp : Addr × Obj → Sp} {x : Str} {q pos : Pos} {e : Expr} {es : List Expr} {t : TA}
theorem run_fnP {pins : List (Addr × Obj)} {σ : L2.St} {H : Hp} {s : Shared} {Q : VK} {us : List Value} {vs : List V} {p : Addr × Obj} (F : FnP X.prog X.w X.K X.mg X.base k f fd ps sp) (hr : RoomH k X.A) (hp : p ∈ X.pn) (hb : Binds X.K fd ps []) (hx : PassesAt (L2.CX X.prog X.w) X σ (fun _ _ _ => False))
    (I : Inv X pins σ H s) (r : Vals vs us) (h : sp p vs H Q (fun _ _ _ => False)) : wpAny (model X.prog X.w) X.A (call (.ref f) us) (EP X pins σ Q) X.xe s := by
  have hl : us.length = ps.length := by rw [← r.length]; exact F.len _ _ _ _ _ h
  have b := hb s us I.kIn (by rw [List.append_nil]; exact hl)
  rw [List.append_nil] at b
  have P1 := I.pin p (List.mem_append_left _ hp)
  have hpin : PinOk X.stack H s p := ⟨P1.1, P1.2.1, fun hm => (List.mem_cons.mp (I.stkSub p.1 hm)).elim P1.2.2.1 P1.2.2.2.1, P1.2.2.2.2⟩
  refine wpAny_call (codeAny_mono (F.run X.A X.stack s H ⟨us, []⟩ us vs Q _ p hr hpin I.env0 b r h) fun r s' hq => ?_)
  cases r with
  | error e => exact hx pins H s e s' I hq
  | ok fl =>
    cases fl with
    | ret u => exact I.after hq
    | next => exact False.elim hq
    | brk => exact False.elim hq
    | cont => exact False.elim hq
def tCallP (sp : Addr × Obj → Sp) (p : Addr × Obj) (t : TA) : TE := fun σ H Q => t σ H fun vs H1 => sp p vs H1 Q (fun _ _ _ => False)
theorem pe_callP {p : Addr × Obj} (F : FnP X.prog X.w X.K X.mg X.base k f fd ps sp) (hr : RoomH k X.A) (hp : p ∈ X.pn) (hg : Gl X x) (hm : X.mg x = some (.ref f)) (hk : PySem.W.keepIn X.K (.ref f) = true) (hb : Binds X.K fd ps []) (hx : ∀ σ, PassesAt (L2.CX X.prog X.w) X σ (fun _ _ _ => False))
    (ha : PA X (e :: es) t) (hdb : (x == ("__debug__" : Str)) = false := by decide) (he : starEach (e :: es) X.env = (false, eval e X.env) :: starEach es X.env := by rfl) (hpl : (backTo pos (starEach es X.env)).any (·.1) = false := by rfl) :
    PE X (.Call (.Name x q) (e :: es) [] pos) (tCallP sp p t) := by
  refine ⟨fun pins s σ H Q I h => ?_⟩
  refine wpAny_Call_Name_kw (ld_glob I hg hm ?_ hdb)
  refine PySem.W.callWith_K (h₀ := X.base) I.ok.mod.kin hk (thn (ha.run pos pins s σ H _ I h) fun us s1 ⟨vs, H1, I1, r, q⟩ => ⟨I1.kIn, ?_⟩) he hpl
  exact run_fnP F hr hp hb (hx σ) I1 r q
end
end SL
set_option Elab.async false
set_option linter.all false
set_option maxRecDepth 100000
namespace SL
open PySem PySem.Spec PyProof.Rows L2

/-! ### several except clauses, some of which name the exception -/
abbrev Suite := Addr → Value → Option Addr → TS
def endsOff (i : Nat) (D : Ends) : Ends := { nx := fun σ' H' => D.nx (σ'.set i none) H', rt := D.rt, bk := fun σ' H' => D.bk (σ'.set i none) H', ct := fun σ' H' => D.ct (σ'.set i none) H' }
/-- what the clauses wish of an exception, one after the other; some i: the slot of the name -/
def wMix (K : PySem.W.Frag) (Wout : WX) (D : Ends) : List (Value × Option Nat × Suite) → WX
  | [] => Wout
  | (c, none, ts) :: r => fun cls d σ H => ∃ b, PySem.W.exmOne K cls c = some b ∧ (b = true → ∀ a, H a = none → ts a cls d D σ H) ∧ (b = false → wMix K Wout D r cls d σ H)
  | (c, some i, ts) :: r => fun cls d σ H => ∃ b, PySem.W.exmOne K cls c = some b ∧ (b = true → ∀ a, H a = none → i < σ.length → ts a cls d (endsOff i D) (σ.set i (some (.ref a))) H) ∧ (b = false → wMix K Wout D r cls d σ H)
inductive HdsM (X : Cx) : List ExceptHandler → List (Value × Option Nat × Suite) → Prop
  | nil : HdsM X [] []
  | plain {x : Str} {c : Value} {ts : Suite} {b0 : Stmt} {suite : List Stmt} {np p : Pos} {hds : List ExceptHandler} {l : List (Value × Option Nat × Suite)} (hc : Names X x c)
      (hsu : ∀ (a : Addr) (oe : Obj) (cls : Value) (d : Option Addr) (pn : List (Addr × Obj)), Zc cls d oe → (∃ vs, oe.data = .fields vs) → PSs (X.suite a ((a, oe) :: pn)) (b0 :: suite) (ts a cls d)) (r : HdsM X hds l) :
      HdsM X (.ExceptHandler (some (.Name x np)) none (b0 :: suite) p :: hds) ((c, none, ts) :: l)
  | named {x n : Str} {i : Nat} {c : Value} {ts : Suite} {b0 : Stmt} {suite : List Stmt} {np p : Pos} {hds : List ExceptHandler} {l : List (Value × Option Nat × Suite)} (hc : Names X x c) (hi : X.N[i]? = some n) (hln : X.env.kindOf n = some .local)
      (hsu : ∀ (a : Addr) (oe : Obj) (cls : Value) (d : Option Addr) (pn : List (Addr × Obj)), Zc cls d oe → (∃ vs, oe.data = .fields vs) → PSs (X.suite a ((a, oe) :: pn)) (b0 :: suite) (ts a cls d)) (r : HdsM X hds l) :
      HdsM X (.ExceptHandler (some (.Name x np)) (some n) (b0 :: suite) p :: hds) ((c, some i, ts) :: l)
section
variable {X : Cx} {body : List Stmt} {h0 : ExceptHandler} {hds : List ExceptHandler} {l : List (Value × Option Nat × Suite)} {pos : Pos} {tb : WX → TS} {Wout : WX}
theorem ps_try_mix (hs : X.stack = X.env :: X.outer) (hf : X.env.frame = some X.env.locals) (hN : X.N.Nodup) (tk : Takes X Wout)
    (hb : ∀ (W : WX) (pn : List (Addr × Obj)) (xe : Value → Shared → Prop), Takes (X.tr pn xe) W → PassesOwn (model X.prog X.w) X.A X.env xe → PSs (X.tr pn xe) body (tb W))
    (hh : HdsM X (h0 :: hds) l) : PS X (.Try body (h0 :: hds) [] [] pos) (fun D σ H => tb (wMix X.K Wout D l) D σ H) := by
  refine ⟨fun pins s σ H D I h => ?_⟩
  have okX := I.ok
  have hfr : X.A.frames = some (X.env :: X.outer) := by rw [okX.frames, hs]
  refine wpAny_Try_except (wpAny_mono ((hb (wMix X.K Wout D l) (X.pn ++ pins) (fun e s₁ => wpAny (model X.prog X.w) X.A (noteFrame e X.env) (fun _ s₂ => wpAny (model X.prog X.w) X.A (setFlight e none) (fun _ s₃ =>
    wpAny (model X.prog X.w) X.A (handleBy e X.env (h0 :: hds)) (SP X pins D) X.xe s₃) X.xe s₂) X.xe s₁) (fun u s' xx => ?_) PassesOwn.looking).run [] s σ H D (I.toTry _) h) (fun f s1 hsp => ?_) fun e s1 he => he)
  · -- an exception flies
    obtain ⟨a, B, sI, pins', σ', H', cls, d, rfl, J', nb, up, sky, na, os, ag, wish⟩ := xx
    have J : Inv X pins σ' H' sI := J'.ofTry okX
    have sky' : Sky B (X.env :: X.outer) a (Zc cls d) X.env.locals s'.heap := by rw [← hs]; exact sky
    show wpAny (model X.prog X.w) X.A (noteFrame (.ref a) X.env) _ _ _
    refine Sky.land Zc.steady hfr hf sky' fun h3 fl3 up3 => ?_
    have J3 : Inv X pins σ' H' { s' with heap := h3 } := J.landed nb fl3.1 (up.trans up3) os ag
    obtain ⟨oe3, vs3, he3, hz3, hd3⟩ := fl3.there
    have nfr : a ∉ frs (X.env :: X.outer) := fun hm => by
      obtain ⟨_, o', e', hnf⟩ := fl3.2.2.1.mem hm
      rw [he3] at e'; cases e'
      exact hnf _ hd3
    have nL : a ≠ X.env.locals := fun z => nfr (List.mem_filterMap.mpr ⟨X.env, List.mem_cons_self, by rw [hf, z]⟩)
    have nF : a ∉ X.fs := fun hm => by
      obtain ⟨e, he, q⟩ := List.mem_filterMap.mp hm
      exact nfr (List.mem_filterMap.mpr ⟨e, List.mem_cons_of_mem _ he, q⟩)
    have S3 := J3.suite he3 hd3 na nL nF
    have LT : PySem.W.Looks (model X.prog X.w) h3 (typeOf (.ref a)) cls := fun A Q E s k q => wpAny_typeOf_ref (k _ _ he3) (by rw [hz3.1]; exact q)
    have test : ∀ {x : Str} {c : Value} {np : Pos} {b : Bool} {Q : Value → Shared → Prop} {E : Value → Shared → Prop}, Names X x c → Q c { s' with heap := h3 } → wpAny (model X.prog X.w) (X.A.mark (some (.ref a))) (eval (.Name x np) X.env) Q E { s' with heap := h3 } := fun {x c np b Q E} hc q => by
      obtain ⟨hg, hdbg, hm | ⟨hm, hv, hnn⟩⟩ := hc
      · exact ld_glob (X := X.suite a ((a, oe3) :: (X.pn ++ pins))) S3 hg hm q hdbg
      · exact ld_blt (X := X.suite a ((a, oe3) :: (X.pn ++ pins))) S3 hg hm hv q hnn hdbg
    have go : ∀ {hds' : List ExceptHandler} {l' : List (Value × Option Nat × Suite)}, HdsM X hds' l' → wMix X.K Wout D l' cls d σ' H' →
        wpAny (model X.prog X.w) X.A (handleBy (.ref a) X.env hds') (SP X pins D) X.xe { s' with heap := h3 } := by
      intro hds' l' hk
      induction hk with
      | nil =>
        intro wish
        refine wpAny_handleBy_nil ?_
        obtain ⟨k1, k2, k3, oe, vs, T, oT, ts', he, hz, hd, h1, hr⟩ := id fl3
        unfold PySem.passOn
        refine wpAny_bind (wpAny_field he hd h1 ?_)
        rw [if_neg (show ¬ ((Value.ref T == Value.none) = true) from by simp)]
        have fin : wpAny (model X.prog X.w) X.A (setFlight (.ref a) X.env.frame) (fun _ s4 => wpAny (model X.prog X.w) X.A (throw (.ref a) : Sem Flow) (SP X pins D) X.xe s4) X.xe { s' with heap := h3 } := by
          rw [hf]
          exact HandSPX.setFlight_upZ fl3 fun h4 hh4 up4 => wpAny_throw (tk _ _ ⟨a, B, sI, pins, σ', H', cls, d, rfl, J, nb, (up.trans up3).trans up4, .inr (.inr (by rw [hs]; exact hh4)), na, os, ag, wish⟩)
        first
          | exact wpAny_bind (wpAny_pure (wpAny_bind fin))
          | exact wpAny_bind fin
      | @plain x c ts b0 suite np pos' hds2 l2 hc hsu r ih =>
        intro wish
        obtain ⟨b, hb1, hyes, hno⟩ := wish
        refine wpAny_handleBy_cons (codeAny_handlers_test ?_) (by intro q; cases q)
        refine test (b := b) hc ((PySem.W.exm_one (M := model X.prog X.w) (J3.kIn) LT hb1).here ?_)
        cases b with
        | true =>
          refine codeAny_handlers_suite (HandSPX.lands_againZ fl3 fun h4 fl4 up4 => ?_)
          have J4 : Inv X pins σ' H' { s' with heap := h4 } := J.landed nb fl4.1 ((up.trans up3).trans up4) os ag
          obtain ⟨oe4, vs4, he4, hz4, hd4⟩ := fl4.there
          refine wpAny_mono ((hsu a oe4 cls d (X.pn ++ pins) hz4 ⟨_, hd4⟩).run [] _ _ H' _ (J4.suite he4 hd4 na nL nF) (hyes rfl a na)) (fun f s6 hsp => ?_) fun _ _ z => False.elim z
          cases f with
          | ret u => exact let ⟨v6, σ6, H6, S6, r6, q6⟩ := hsp; ⟨_, _, _, S6.unsuite okX, r6, q6⟩
          | next => exact let ⟨σ6, H6, S6, q6⟩ := hsp; ⟨_, _, S6.unsuite okX, q6⟩
          | brk => exact let ⟨σ6, H6, S6, q6⟩ := hsp; ⟨_, _, S6.unsuite okX, q6⟩
          | cont => exact let ⟨σ6, H6, S6, q6⟩ := hsp; ⟨_, _, S6.unsuite okX, q6⟩
        | false => exact ih (hno rfl)
      | @named x n i c ts b0 suite np pos' hds2 l2 hc hi hln hsu r ih =>
        intro wish
        obtain ⟨b, hb1, hyes, hno⟩ := wish
        refine wpAny_handleBy_cons (codeAny_handlers_test ?_) (by intro q; cases q)
        refine test (b := b) hc ((PySem.W.exm_one (M := model X.prog X.w) (J3.kIn) LT hb1).here ?_)
        cases b with
        | true =>
          refine codeAny_handlers_suite_as (HandSPX.lands_againZ fl3 fun h4 fl4 up4 => ?_)
          have J4 : Inv X pins σ' H' { s' with heap := h4 } := J.landed nb fl4.1 ((up.trans up3).trans up4) os ag
          obtain ⟨oe4, vs4, he4, hz4, hd4⟩ := fl4.there
          refine store_ok (X := X.suite a ((a, oe4) :: (X.pn ++ pins))) (v := .ref a) (J4.suite he4 hd4 na nL nF) hN hi (.inl hln) rfl (fun s5 S5 => ?_) (.inr hln)
          refine wpAny_mono ((hsu a oe4 cls d (X.pn ++ pins) hz4 ⟨_, hd4⟩).run [] s5 _ H' _ S5 (hyes rfl a na (by rw [show σ'.length = X.N.length from J.len]; exact (List.getElem?_eq_some_iff.mp hi).1))) (fun f s6 hsp => ?_) fun _ _ z => False.elim z
          have off : ∀ {σ6 : L2.St} {H6 : Hp} {Q : Shared → Prop}, Inv (X.suite a ((a, oe4) :: (X.pn ++ pins))) [] σ6 H6 s6 → (∀ s7, Inv X pins (σ6.set i none) H6 s7 → Q s7) →
              wpAny (model X.prog X.w) X.A (do bindName X.env n .none; unbindBehindTheSuite X.env n pos') (fun _ s7 => Q s7) X.xe s6 := fun {σ6 H6 Q} S6 hq => gone_ok (S6.unsuite okX) hN hi hln hq
          cases f with
          | ret u => exact let ⟨v6, σ6, H6, S6, r6, q6⟩ := hsp; off S6 fun s7 J7 => ⟨_, _, _, J7, r6, q6⟩
          | next => exact let ⟨σ6, H6, S6, q6⟩ := hsp; off S6 fun s7 J7 => ⟨_, _, J7, q6⟩
          | brk => exact let ⟨σ6, H6, S6, q6⟩ := hsp; off S6 fun s7 J7 => ⟨_, _, J7, q6⟩
          | cont => exact let ⟨σ6, H6, S6, q6⟩ := hsp; off S6 fun s7 J7 => ⟨_, _, J7, q6⟩
        | false => exact ih (hno rfl)
    exact go hh wish
  · cases f with
    | ret u => exact let ⟨v, σ', H', J', r, q⟩ := hsp; ⟨v, σ', H', J'.ofTry okX, r, q⟩
    | next => exact let ⟨σ', H', J', q⟩ := hsp; wpAny_execs_nil ⟨σ', H', J'.ofTry okX, q⟩
    | brk => exact let ⟨σ', H', J', q⟩ := hsp; ⟨σ', H', J'.ofTry okX, q⟩
    | cont => exact let ⟨σ', H', J', q⟩ := hsp; ⟨σ', H', J'.ofTry okX, q⟩
end
end SL
set_option Elab.async false
set_option linter.all false
set_option maxRecDepth 100000
namespace SL
open PySem PySem.Spec PyProof.Rows L2

/-! ### a def that makes lambdas -/
section
variable {P : Program} {w : World} {K : PySem.W.Frag} {mg : Str → Option Value} {base : Heap} {x qual : Str} {params : Arguments} {body : List Stmt} {scope : Scope} {dvs dv2 : List V} {kws : List (Str × V)} {f : Addr} {fd : FuncData} {N ps : List Str} {ds : List Value} {dds : List D} {k : Nat} {m : MS}
/-- as fnA_of; the walk knows the code object -/
theorem fnA_ofL (F : FunD K x qual params body scope dvs kws f fd) (S : FnScope N ps scope) (hb : Binds K fd ps ds) (hd : Vals dv2 ds) (hdd : ∀ R H, DVs K R H dds dv2)
    (h : ∀ (cdv : Value) (A : Around) (outer : List Env) (s : Shared) (H : Hp) (E : XK), fd.code = cdv → Room k (A.deeper (envOfC qual scope s.heap.objs.size f cdv)) → SSs (cxOf (L2.CX P w) P w K mg base N qual scope f cdv A outer s H E) body m) :
    FnA P w K mg base f ps dds (k + 1) (fnM N.length m) := by
  obtain ⟨⟨oc, od, dV, kV, doc, pm, an, cdv, ct, osl, rfl, lk, hcd, dok, kok⟩, kp⟩ := F
  refine ⟨⟨_, ds, dv2, ?_, hb, hd, hdd⟩, kp⟩
  refine fn_of lk hcd S (fun vs H Q E h => h.1) fun A outer s H vs Q E hr hsp => ?_
  have tk : Takes (cxOf (L2.CX P w) P w K mg base N qual scope f cdv A outer s H E) fun cls d _ H' => E cls d H' := takes_of rfl rfl rfl rfl
  refine ⟨_, (h cdv A outer s H E rfl hr).run _ tk, ?_⟩
  obtain ⟨hl, R, S0, ds0, r, hds, q⟩ := hsp
  refine ⟨R, S0, startD N.length ds0, r, start_rel hds, ?_⟩
  have q2 := Out.bind (X := cxOf (L2.CX P w) P w K mg base N qual scope f cdv A outer s H E) (W := E) q
  refine q2.impW (fun fl S1 R1 H1 x1 r1 q3 σ' _ => ?_) fun c d H' z σ' => z
  obtain ⟨fl, l'⟩ := fl
  cases fl with
  | nx => exact Out.pure q3 r1 _ .non
  | bk => exact False.elim q3
  | ct => exact False.elim q3
  | rt d => exact fun v hv => Out.pure q3 r1 v hv
end
/-- where the lambdas of the context's def are kept -/
structure LamAt (X : Cx) (c P : Addr) : Prop where
  tb : LamX.TabB X.base X.mg c P
  code : X.env.code = .ref c
  mem : (P, X.env.qual ++ ("<lambda>" : Str)) ∈ LT X.K
  uni : ∀ p ∈ LT X.K, p.1 = P → p.2 = X.env.qual ++ ("<lambda>" : Str)
/-- what a head must say: the defs with lambdas, their tables apart -/
def TBs (K : PySem.W.Frag) (base : Heap) (mg : Str → Option Value) : Prop := ∀ x ∈ LTn, ∀ c P, PySem.W.tabIn K x = some (c, P) → LamX.TabB base mg c P
theorem uniq_fst {α β : Type} : ∀ {l : List (α × β)}, (l.map (·.1)).Nodup → ∀ p ∈ l, ∀ q ∈ l, p.1 = q.1 → p = q
  | [], _, p, hp, _, _, _ => nomatch hp
  | x :: l, h, p, hp, q, hq, e => by
    rw [List.map_cons, List.nodup_cons] at h
    rcases List.mem_cons.mp hp with hp | hp <;> rcases List.mem_cons.mp hq with hq | hq
    · rw [hp, hq]
    · exact absurd (List.mem_map.mpr ⟨q, hq, by rw [← e, hp]⟩) h.1
    · exact absurd (List.mem_map.mpr ⟨p, hp, by rw [e, hq]⟩) h.1
    · exact uniq_fst h.2 p hp q hq e
theorem tabIn_code {K : PySem.W.Frag} {x : Str} {c P : Addr} {oc : Value} {od : Option Addr} {fd : FuncData} {osl : Array (Option Value)} (h : PySem.W.tabIn K x = some (c, P)) (lk : K.lookup (He.ga K x) = some ⟨oc, od, .func fd, osl⟩) : fd.code = .ref c := by
  unfold PySem.W.tabIn at h
  split at h
  · rename_i f hf
    have e : He.ga K x = f := by unfold He.ga; rw [hf]
    rw [e] at lk
    rw [lk] at h
    dsimp only at h
    split at h
    · rename_i c' hc
      split at h
      · split at h
        · cases h; exact hc
        · cases h
      · cases h
    · cases h
  · cases h
theorem lamAt_of {X : Cx} {x : Str} {params : Arguments} {body : List Stmt} {scope : Scope} {dvs : List V} {kws : List (Str × V)} {fd : FuncData} (F : FunD X.K x x params body scope dvs kws (He.ga X.K x) fd) (hc : fd.code = X.env.code) (hq : X.env.qual = x ++ (".<locals>." : Str)) (T : TBs X.K X.base X.mg) (h : lamB X.K x = true) :
    ∃ c P, LamAt X c P := by
  obtain ⟨h1, h2⟩ := Bool.and_eq_true_iff.mp h
  obtain ⟨h2, h3⟩ := Bool.and_eq_true_iff.mp h2
  have h3 : ((LT X.K).map (·.1)).Nodup := of_decide_eq_true h3
  obtain ⟨⟨c, P⟩, e⟩ := Option.isSome_iff_exists.mp h2
  have hx : x ∈ LTn := List.contains_iff_mem.mp h1
  have hm : (P, X.env.qual ++ ("<lambda>" : Str)) ∈ LT X.K := by
    rw [hq]
    exact List.mem_filterMap.mpr ⟨x, hx, by rw [e]; rfl⟩
  obtain ⟨⟨oc, od, dV, kV, doc, pm, an, cdv, ct, osl, rfl, lk, _, _, _⟩, _⟩ := F
  refine ⟨c, P, T x hx c P e, ?_, hm, fun p hp ep => ?_⟩
  · rw [← hc]
    exact tabIn_code e lk
  · have z := uniq_fst h3 p hp _ hm ep
    rw [z]
/-- what the def that gets the lambda makes of what runs out of it -/
def saidTT (X : Cx) (sd : Res D → Res D) : (XK → Hp → VK → Prop) → Hp → VK → Prop := fun tl H Q =>
  ∃ R S r0, RelX X R S H ∧ (∀ (E : XK) (Q' : VK), Out X r0 R H E (fun d _ R' H' => ∀ v, DV X.K R' H' d v → Q' v H') → tl E H Q') ∧ Out X (sd r0) R H (fun _ _ _ => False) (fun d _ R' H' => ∀ v, DV X.K R' H' d v → Q v H')
def eSaid (sd : Res D → Res D) (m : ME) : ME := fun l S => noErr (sd (m l S))
section
variable {X : Cx}
theorem se_lam {sd : Res D → Res D} {x a : Str} {g c P : Addr} {k : Nat} {pg : Arguments} {bg : List Stmt} {sg : Scope} {fdg : FuncData} {Ng : List Str} {params : Arguments} {body : Expr} {scope : Scope} {m : ME} {p lpos pos : Pos}
    (F : FunD X.K x x pg bg sg [] [] g fdg) (hb : L2.Binds X.K fdg [a] []) (Sg : FnScope Ng [a] sg) (hNg : Ng[0]? = some a) (hva : Vis sg a) (hg : Gl X x) (hm : X.mg x = some (.ref g))
    (hG : ∀ cdg, LamX.GivesTo X Ng x sg g cdg bg a (X.env.qual ++ ("<lambda>" : Str)) (saidTT X sd)) (A : LamAt X c P) (hr : Room (k + 2) X.A) (L : LamX.LamS X.env.scope scope) (hdef : defaultsOf params X.env = ([], []))
    (hbind : ∀ (q : Str) (cl : List (Str × Addr)) (pm cv ctv : Value), bindArgs (PySem.W.kla_fn "<lambda>" q params body scope cl pm cv ctv) ⟨[], []⟩ = pure [])
    (hbody : ∀ (A : Around) (outer : List Env) (s : Shared) (H : Hp) (E : XK) (f c' : Addr), Room k (A.deeper (LamX.lamEnv X scope s.heap.objs.size f c')) → SE (LamX.lamCx X A outer s H E scope f c') body m)
    (hdb : (x == ("__debug__" : Str)) = false := by decide) (hd : (a == ("__debug__" : Str)) = false := by decide) (hcd : (a == ("__classdict__" : Str)) = false := by decide) :
    SE X (.Call (.Name x p) [.Lambda params body scope lpos] [] pos) (eSaid sd m) := ⟨fun W tk => by
  obtain ⟨⟨oc, od, dV, kV, doc, pm, an, cdv, ct, osl, rfl, lk, hcg, dok, kok⟩, kp⟩ := F
  refine PE.mono (LamX.pe_lamcall (k := k) (t := fun E σ H Q => ∃ R S l, RelX X R S H ∧ LocR X.K R H l σ ∧ Out X (m l S) R H (fun c d H' => E c d H') fun d _ R' H' => ∀ v, DV X.K R' H' d v → Q v H') hg hm kp lk hcg hb Sg hNg hva (hG cdv) A.tb A.code A.mem A.uni hr L hdef hbind (fun A outer s H E f c' hr2 => ?_) hdb hd hcd) fun σ H Q ⟨R, S, l, r, hl, h⟩ => ?_
  · exact (hbody A outer s H E f c' hr2).run (fun cls d _ H' => E cls d H') (takes_of rfl rfl rfl rfl)
  · refine ⟨r.tab, fun H1 hx t1 => ?_⟩
    obtain ⟨r1, x1⟩ := r.extN hx t1
    refine ⟨R, S, m l S, r1, fun E Q' h' => ⟨R, S, l, r1, hl.ext r x1, h'⟩, ?_⟩
    exact noErr_out (Out.shift h x1 r1.some)⟩
end
end SL
set_option Elab.async false
set_option linter.all false
set_option maxRecDepth 100000
namespace SL
open PySem PySem.Spec PyProof.Rows L2

/-! ### f(a, *b, **d), d an empty dict -/
section
variable {M : Model} {A : Around} {E : Value → Shared → Prop} {s : Shared}
theorem call_kw {f : Value} {first : List Value} {pos : Pos} {Q : Value → Shared → Prop} {P : Heap → Prop} {args : List (Bool × Sem Value)} {kws : List (Option Str × Sem Value)} (hst : (args.any (·.1) || kws.any (·.1.isNone)) = true)
    (hk : ∀ h, P h → ∃ k, (k = Keeper.frame ∨ k = Keeper.machine ∨ k = Keeper.boundFrame) ∧ PySem.W.Looks M h (keeperOf f) k)
    (h : wpAny M A (evalArgs f true args kws) (fun a s₁ => P s₁.heap ∧ wpAny M A (call f (first ++ a.pos) a.kw) Q E s₁) E s) : wpAny M A (callWith pos f first args kws) Q E s := by
  unfold callWith
  refine wpAny_bind (wpAny_holding (wpAny_mono h (fun a s₁ h₁ => wpAny_bind (wpAny_standAt ?_)) fun _ _ x => x))
  obtain ⟨k, hk', L⟩ := hk _ h₁.1
  simp only [hst]
  refine wpAny_bind (L.here ?_)
  have tail : ∀ {t : Sem Value}, wpAny M A t Q E s₁ → wpAny M A (t >>= fun r => holding [r] point >>= fun _ => pure r) Q E s₁ :=
    fun ht => wpAny_bind (wpAny_mono ht (fun r s₂ hr => wpAny_bind (wpAny_holding (wpAny_point (wpAny_pure hr)))) fun _ _ x => x)
  have marked (mk : Value) : wpAny M A (callMarked mk f (first ++ a.pos) a.kw) Q E s₁ := by unfold callMarked; exact Calls.wpAny_keep h₁.2
  rcases hk' with rfl | rfl | rfl <;> dsimp only <;> first | exact tail (marked _) | exact tail (wpAny_operating h₁.2)
/-- what is merged of an empty dict -/
theorem merge_none {d a : Addr} {o od : Obj} {ep ed : Nat} {Q : Unit → Shared → Prop} (ha : (a == sysModules) = false) (ho : s.heap.get? a = some o) (hx : o.ExactDict) (hd : o.data = .dict #[] ep) (hod : s.heap.get? d = some od) (hdd : od.data = .dict #[] ed) (h : Q () s) :
    wpAny M A (mergeMapping d (.ref a) true) Q E s := by
  have hT : s.TypeIs (.ref a) "dict" := ⟨o, ho, hx.1⟩
  unfold mergeMapping
  refine wpAny_bind (wpAny_isInstance hT isSubtype_dict_dict ?_)
  simp only [if_true]
  refine wpAny_bind (wpAny_specialOf hT PySem.F.slot_dict_iter.lookup (wpAny_bind (wpAny_pure ?_)))
  simp only [beq_self_eq_true]
  rw [if_neg (by rw [ha]; exact Bool.false_ne_true)]
  refine wpAny_bind (wpAny_dictEntries hod hdd ?_)
  simp only [Array.isEmpty_empty, if_true]
  refine wpAny_bind (wpAny_dictEntries ho hd ?_)
  refine wpAny_bind (wpAny_of_eq (show _ = pure PUnit.unit by rw [← Array.forIn_toList]; rfl) ?_)
  refine wpAny_bind (wpAny_dictEntries ho hd ?_)
  simp only [Array.size_empty, List.range_zero, List.forIn_nil]
  refine wpAny_bind (wpAny_dictEpoch ho hd ?_)
  exact wpAny_bind (wpAny_pure (wpAny_pure h))
theorem merged_none {f : Value} {x : Sem Value} {Q : Addr → Shared → Prop}
    (h : wpAny M A x (fun v s2 => ∃ a o ep od ed, v = .ref a ∧ (a == sysModules) = false ∧ s2.heap.get? a = some o ∧ o.ExactDict ∧ o.data = .dict #[] ep ∧ s2.heap.get? s.heap.objs.size = some od ∧ od.data = .dict #[] ed ∧ Q s.heap.objs.size s2) E { s with heap := s.heap.push { cls := .type "dict", data := .dict #[] } }) :
    wpAny M A (mergedKeywords f [(none, x)]) Q E s := by
  unfold mergedKeywords
  refine wpAny_bind (wpAny_alloc ?_)
  refine wpAny_bind (wpAny_holding ?_)
  refine wpAny_bind ?_
  rw [List.forIn_cons]
  refine wpAny_bind ?_
  refine wpAny_bind (wpAny_of_eq (a := ()) rfl ?_)
  refine wpAny_bind (wpAny_mono h (fun v s2 hv => ?_) fun _ _ z => z)
  obtain ⟨a, o, ep, od, ed, rfl, ha, ho, hx, hd, hod, hdd, hq⟩ := hv
  refine wpAny_bind (wpAny_onRaise (wpAny_holding (wpAny_tryCatch (wpAny_onRaise (merge_none ha ho hx hd hod hdd ?_)))))
  refine wpAny_pure ?_
  dsimp only
  rw [List.forIn_nil]
  refine wpAny_pure ?_
  refine wpAny_of_eq (a := ()) rfl ?_
  exact wpAny_pure hq
theorem kws_none {f : Value} {d : Addr} {od : Obj} {ed : Nat} {Q : List (Str × Value) → Shared → Prop} (hod : s.heap.get? d = some od) (hdd : od.data = .dict #[] ed) (h : Q [] s) : wpAny M A (keywordsIn f d) Q E s := by
  unfold keywordsIn
  refine wpAny_bind (wpAny_dictEntries hod hdd ?_)
  refine wpAny_bind ?_
  rw [← Array.forIn_toList]
  exact wpAny_pure (wpAny_pure h)
theorem args_none {f : Value} {x1 : Sem Value} {a2 : Bool × Sem Value} {rest : List (Bool × Sem Value)} {x : Sem Value} {Q : Args → Shared → Prop}
    (h : wpAny M A (spliced ((false, x1) :: a2 :: rest)) (fun vs s1 => wpAny M A x (fun v s2 => ∃ a o ep od ed, v = .ref a ∧ (a == sysModules) = false ∧ s2.heap.get? a = some o ∧ o.ExactDict ∧ o.data = .dict #[] ep ∧ s2.heap.get? s1.heap.objs.size = some od ∧ od.data = .dict #[] ed ∧ Q ⟨vs, []⟩ s2) E { s1 with heap := s1.heap.push { cls := .type "dict", data := .dict #[] } }) E s) :
    wpAny M A (evalArgs f true ((false, x1) :: a2 :: rest) [(none, x)]) Q E s := by
  unfold evalArgs
  refine wpAny_bind (wpAny_mono h (fun vs s1 h1 => wpAny_bind (wpAny_pure ?_)) fun _ _ z => z)
  refine wpAny_holding ?_
  dsimp only
  rw [if_neg (show ¬ (([(none, x)] : List (Option Str × Sem Value)).all (·.1.isSome) = true) from by simp)]
  refine wpAny_bind (merged_none (wpAny_mono h1 (fun v s2 hv => ?_) fun _ _ z => z))
  obtain ⟨a, o, ep, od, ed, e1, ha, ho, hx, hd, hod, hdd, hq⟩ := hv
  refine ⟨a, o, ep, od, ed, e1, ha, ho, hx, hd, hod, hdd, ?_⟩
  refine wpAny_bind (wpAny_pure ?_)
  exact wpAny_bind (wpAny_holding (kws_none hod hdd (wpAny_pure hq)))
end
/-- a def that may be called by its value -/
structure PEnt where
  n : Nat
  dds : List D
  m : List D → Sto → Res D
def stK3 (e : PEnt) (xs : List D) : D → Sto → Res D := fun d3 S3 => match d3 with
  | .ref r => (match S3[r]? with
    | some (.dK []) => if (xs ++ e.dds).length = e.n then e.m (xs ++ e.dds) S3 else .bad
    | _ => .bad)
  | _ => .bad
def stK2 (e : PEnt) (m3 : ME) (l : Loc) (d1 : D) : D → Sto → Res D := fun d2 S2 => match d2 with
  | .tup ds => (m3 l S2).bind fun d3 S3 => stK3 e (d1 :: ds) d3 S3
  | _ => .bad
def stK1 (tab : Str → Option PEnt) (m1 m2 m3 : ME) (l : Loc) : D → Sto → Res D := fun f S0 => match f with
  | .gl x => (match tab x with
    | some e => (m1 l S0).bind fun d1 S1 => (m2 l S1).bind fun d2 S2 => stK2 e m3 l d1 d2 S2
    | none => .bad)
  | _ => .bad
def eStarK (tab : Str → Option PEnt) (mf m1 m2 m3 : ME) : ME := fun l S => (mf l S).bind fun f S0 => stK1 tab m1 m2 m3 l f S0
section
variable {X : Cx} {k : Nat} {fx : Str} {e1 e2 e3 : Expr} {mf m1 m2 m3 : ME} {p p2 p3 pos : Pos} {tab : Str → Option PEnt}
theorem se_starkw (ht : ∀ x e, tab x = some e → ∃ ps j, FnA X.prog X.w X.K X.mg X.base (He.ga X.K x) ps e.dds j e.m ∧ ps.length = e.n ∧ j ≤ k) (hr : Room k X.A) (hf : SE X (.Name fx p) mf) (h1 : SE X e1 m1) (h2 : SE X e2 m2) (h3 : SE X e3 m3)
    (hs : starEach [e1, .Starred e2 p2] X.env = [(false, eval e1 X.env), (true, eval e2 X.env)] := by rfl) (hs2 : starEach [.Starred e2 p2] X.env = [(true, eval e2 X.env)] := by rfl) (hk : keywordEach [⟨none, e3, p3⟩] X.env = [(none, eval e3 X.env)] := by rfl) :
    SE X (.Call (.Name fx p) [e1, .Starred e2 p2] [⟨none, e3, p3⟩] pos) (eStarK tab mf m1 m2 m3) := ⟨fun W tk => by
  refine ⟨fun pins s σ H Q I ⟨R, S, l, r, hl, h⟩ => ?_⟩
  refine wpAny_Call_Name_kw (thn ((hf.run W tk).run pins s σ H (fun v H1 => ∃ R1 S1 x, v = .ref (He.ga X.K x) ∧ RelX X R1 S1 H1 ∧ LocR X.K R1 H1 l σ ∧ ∃ e, tab x = some e ∧ Out X ((m1 l S1).bind fun d1 S1 => (m2 l S1).bind fun d2 S2 => stK2 e m3 l d1 d2 S2) R1 H1 (fun c d H' => W c d σ H') fun d _ R' H' => ∀ v, DV X.K R' H' d v → Q v H') I
    ⟨R, S, l, r, hl, (Out.bind h).imp fun f S1 R1 H1 x1 r1 q v hv => ?_⟩) fun u s1 hu => ?_)
  · cases f <;> first | exact False.elim q | skip
    rename_i x
    cases e : tab x with
    | none => simp only [stK1, e] at q; exact False.elim q
    | some e' => simp only [stK1, e] at q; exact ⟨R1, S1, x, hv.glv, r1, hl.ext r x1, e', e, q⟩
  · obtain ⟨v, H1, I1, rv, R1, S1, x, rfl, r1, hl1, e, he, q⟩ := hu
    obtain rfl : u = Value.ref (He.ga X.K x) := rv
    obtain ⟨ps, j, ⟨⟨fd, ds, dvs, F, hb, hd, hdd⟩, kp⟩, hn, hj⟩ := ht x e he
    have hp : PA X [e1, .Starred e2 p2] _ := pa_cons (h1.run W tk) (StX.pa_star (h2.run W tk) pa_nil (by rw [hs2]; rfl)) (by rw [hs, hs2])
    have hp := hp.run pos pins s1 σ H1 (fun vs H2 => ∃ R2 S2 xs, RelX X R2 S2 H2 ∧ LocR X.K R2 H2 l σ ∧ DVs X.K R2 H2 xs vs ∧ Out X ((m3 l S2).bind fun d3 S3 => stK3 e xs d3 S3) R2 H2 (fun c d H' => W c d σ H') fun d _ R' H' => ∀ v, DV X.K R' H' d v → Q v H') I1
      ⟨R1, S1, l, r1, hl1, (Out.bind q).imp fun d1 S2 R2 H2 x2 r2 q1 v1 hv1 => ⟨R2, S2, l, r2, hl1.ext r1 x2, (Out.bind q1).imp fun d2 S3 R3 H3 x3 r3 q2 v2 hv2 => ?_⟩⟩
    · rw [hs] at hp ⊢
      rw [hk]
      refine call_kw (P := X.K.In) rfl (PySem.W.keeps_K kp) ?_
      refine args_none (thn hp fun us s2 hu => ?_)
      obtain ⟨vs, H2, I2, rr, R2, S2, xs, r2, hl2, hxs, q2⟩ := hu
      have hD : H2 s2.heap.objs.size = none := I2.hok.fresh (Nat.le_refl _)
      have I3 : Inv X pins σ (upd H2 s2.heap.objs.size (.dK [])) { s2 with heap := s2.heap.push { cls := .type "dict", data := .dict #[] } } := I2.laid (a := s2.heap.objs.size) (o := .dK []) (t' := s2.toks) (fun _ _ q => Heap.get?_push_of_some _ q) (Nat.le_refl _) (dk_empty s2.heap I2.big)
      have x3 : Ext R2 H2 R2 (upd H2 s2.heap.objs.size (.dK [])) := Ext.fresh hD
      have r3 : RelX X R2 S2 (upd H2 s2.heap.objs.size (.dK [])) := r2.fresh hD
      have he3 := (h3.run W tk).run pins _ σ _ (fun v H4 => ∃ a R4 S4, v = .ref a ∧ H4 a = some (.dK []) ∧ H4 s2.heap.objs.size = some (.dK []) ∧ RelX X R4 S4 H4 ∧ DVs X.K R4 H4 xs vs ∧ (xs ++ e.dds).length = e.n ∧ Out X (e.m (xs ++ e.dds) S4) R4 H4 (fun c d H' => W c d σ H') fun d _ R' H' => ∀ v, DV X.K R' H' d v → Q v H') I3
        ⟨R2, S2, l, r3, hl2.ext r2 x3, (Out.bind (Out.shift q2 x3 r3.some)).imp fun d3 S4 R4 H4 x4 r4 q4 v4 hv4 => ?_⟩
      · refine wpAny_bind (wpAny_mono he3 (fun u4 s4 hu4 => wpAny_bind (wpAny_standAt (wpAny_pure ?_))) fun _ _ z => z)
        obtain ⟨v4, H4, I4, rv4, a, R4, S4, rfl, ha, hd4, r4, hxs4, hln, q4⟩ := hu4
        obtain rfl : u4 = Value.ref a := rv4
        obtain ⟨na, o, es, ep, ho, hx, hdt, hes, _⟩ := emptyD_at I4 ha
        obtain ⟨nd, od, es2, ep2, hod, hxd, hdd2, hes2, _⟩ := emptyD_at I4 hd4
        have e1 : es = #[] := by simpa using hes
        have e2 : es2 = #[] := by simpa using hes2
        subst e1 e2
        refine ⟨a, o, ep, od, ep2, rfl, na, ho, hx, hdt, hod, hdd2, I4.kIn, ?_⟩
        exact run_fnSD (E := fun σ => WE W σ) F (hr.mono hj) hb hd (passAt tk σ) I4 rr (sp_of r4 (hxs4.append (hdd _ _)) (by rw [hln, hn]) q4)
      · unfold stK3 at q4
        cases d3 <;> first | exact False.elim q4 | skip
        rename_i n3
        obtain ⟨a, rfl, hn3⟩ := hv4.refv
        cases z : S4[n3]? with
        | none => simp only [z] at q4; exact False.elim q4
        | some o =>
          simp only [z] at q4
          cases o <;> first | exact False.elim q4 | skip
          rename_i kvs
          cases kvs with
          | cons _ _ => exact False.elim q4
          | nil =>
            simp only at q4
            obtain ⟨kvs', h1, h2⟩ := r4.ob n3 a _ hn3 z
            cases h2
            by_cases z3 : (xs ++ e.dds).length = e.n
            · rw [if_pos z3] at q4
              refine ⟨a, R4, S4, rfl, h1, ?_, r4, (hxs.ext r2 x3).ext r3 x4, z3, q4⟩
              refine x4.keep _ _ upd_same (fun hm => ?_) fun _ z => nomatch z
              obtain ⟨o, ho, _⟩ := r2.some _ hm
              rw [hD] at ho
              cases ho
            · rw [if_neg z3] at q4; exact False.elim q4
    · cases d2 <;> first | exact False.elim q2 | skip
      rename_i ds
      obtain ⟨a, xs, rfl, s1, s2⟩ := hv2.tupv
      refine ⟨a, xs, rfl, .inl s1, ?_⟩
      exact ⟨R3, S3, d1 :: ds, r3, (hl1.ext r1 x2).ext r2 x3, .cons (hv1.ext r2 x3) (by rw [List.append_nil]; exact s2), q2⟩⟩
end
end SL
set_option Elab.async false
set_option linter.all false
set_option maxRecDepth 100000
namespace PySem.W
open PySem PySem.Spec PySem.Calls PyProof.Rows
section
variable {prog : Program} {w : World} {A : Around} {E : Value → Shared → Prop} {s : Shared} {K : Frag} {x D : Addr} {ox : Obj} {od : Option Obj}
theorem findObj_data2 {C : Addr} {name : Str} {a g : Value} (hc : (clsIn K C).isSome = true) (ha : findIn K (.ref C) name = some (some a)) (hg : specialIn K a "__get__" = some (some g)) (ht : takesIn K a = some true) : findObj K C od name = some (.bind g a) := by
  obtain ⟨cd, e⟩ := Option.isSome_iff_exists.mp hc
  simp [findObj, e, ha, hg, ht]
/-- the class of an exception of an own class, whatever dict it has -/
theorem excClass {Q : Option Value → Shared → Prop} (C : L2.ExcC K D) (X : K.In s.heap) (I : InstAt s.heap x ox D od) (h : Q (some (.ref D)) { s with toks := s.toks + 1 }) : wpAny (model prog w) A (getAttr? (.ref x) "__class__") Q E s := by
  have hf : findObj K D od "__class__" = some (.bind (.builtin "getset_descriptor.__get__") (.builtin "object.__class__")) := findObj_data2 (by obtain ⟨cd, hc, _⟩ := any_some C.hd; rw [hc]; rfl) C.ha C.hn C.ht
  obtain ⟨hp, g, d, t, os⟩ := s
  have L0 := I.type (M := model prog w)
  have L3 := looks_find (M := model prog w) X I hf
  have hx2 : (Value.builtin "BaseException.__getattribute__" == Value.builtin "object.__getattribute__") = false := by decide +kernel
  unfold getAttr? getAttrBy? getAttrBy
  refine wpAny_bind (wpAny_mkText (wpAny_bind (wpAny_attempt (wpAny_holding (wpAny_bind (L0.at (wpAny_bind ((looks_findIn (M := model prog w) X C.hg).at ?_))))))))
  show wpAny _ _ (if (onTheHeap (Value.ref D) && Value.builtin "BaseException.__getattribute__" == Value.builtin "object.__getattribute__") = true then _ else _) _ _ _
  rw [if_neg (by rw [hx2, Bool.and_false]; exact Bool.false_ne_true)]
  unfold getAttrByItsOwn hookBefore
  refine wpAny_bind ?_
  rw [if_pos (show onTheHeap (Value.ref D) = true from rfl)]
  refine (looks_findIn (M := model prog w) X C.hk).at (wpAny_bind (wpAny_attempt (wpAny_holding ?_)))
  unfold callGetattribute
  rw [if_neg (show ¬ ((false && onTheHeap (Value.builtin "BaseException.__getattribute__")) = true) from Bool.false_ne_true)]
  unfold boundAndCalled
  rw [PySem.F.excAttr_ValueError.ga.bind (.ref x)]
  refine wpAny_bind (wpAny_pure ?_)
  show wpAny _ _ (call (.builtin "BaseException.__getattribute__") [.ref x, .str "__class__" t]) _ _ _
  refine wpAny_call (codeAny_call_builtin PySem.F.excAttr_ValueError.ga.plain PySem.F.entry_bexc_ga ?_)
  refine @check_slot (model prog w) _ _ ⟨hp, g, d, t + 1, os⟩ "BaseException.__getattribute__" "BaseException" "__getattribute__" (.ref x) [.str "__class__" t] [] _ (by decide +kernel) (by decide +kernel) (L0.andThen (looks_subIn X C.hs)) (PySem.F.args_bexc_ga (.ref x) (.str "__class__" t)) ?_
  unfold Builtin.«object.__getattribute__»
  refine wpAny_bind (wpAny_of_eq (a := ((Value.ref x : Value), [Value.str "__class__" t])) (by first | rfl | (simp only [slotArgs]; rfl)) ?_)
  refine wpAny_bind (wpAny_pure (wpAny_bind (L0.at (wpAny_bind (L3.at ?_)))))
  show wpAny _ _ (holding [Value.builtin "object.__class__"] (call (.builtin "getset_descriptor.__get__") [.builtin "object.__class__", .ref x, .ref D]) >>= ret) _ _ _
  refine wpAny_bind (wpAny_holding (wpAny_call (class_get (s := ⟨hp, g, d, t + 1, os⟩) (ox := ox) (od := od) X I C.hm (wpAny_pure ?_))))
  show wpAny _ _ (handedOut (.ref D)) _ _ _
  rw [handedOut_of (v := .ref D) rfl]
  first
    | exact wpAny_pure (wpAny_pure h)
    | exact wpAny_pure h
    | exact wpAny_pure (wpAny_bind (wpAny_pure (wpAny_pure h)))
theorem kitx_exc (C : L2.ExcC K D) : KitX K (.ref x) (.ref D) (fun h => InstAt h x ox D od) where
  ty := fun _ _ _ I => I.type
  it := fun M h X _ => by
    obtain ⟨cdD, hcD, _⟩ := any_some C.hd
    unfold clsIn at hcD
    split at hcD
    · rename_i ho
      intro A' Q' E' s' k q
      unfold isType loadHead
      exact wpAny_bind (wpAny_loadPart (k _ _ (X _ _ ho)) (wpAny_pure q))
    · cases hcD
  ne := (handS_kitx_exc (x := x) (ox := ox) C.hg C.hk C.hs C.hd C.ha C.hn C.ht C.hm).ne
  ca := fun X I k => excClass C X I k
end
end PySem.W
namespace SL
open PySem PySem.Spec PyProof.Rows L2 L2H

/-! ### in an except suite -/
/-- isinstance(e, c), e the exception p, of the own class C, with the fields fs -/
def rIsD (K : PySem.W.Frag) (p : Addr × Obj) : List V → Hp → VK → Prop := fun xs H Q => ∃ (C dd : Addr) (fs : List (Str × V)) (c : V) (cv : Value) (b : Bool), xs = [.ref p.1, c] ∧ Zc (.ref C) (some dd) p.2 ∧ (∃ vs, p.2.data = .fields vs) ∧ H dd = some (.xd fs) ∧ ExcC K C ∧
  (∀ u, RelV c u → u = cv) ∧ PySem.W.kitOne K (.ref C) cv = some b ∧ Q (.bl b) H
theorem call_isD {X : Cx} {p : Addr × Obj} (hp : p ∈ X.pn) : CallR X (.builtin "isinstance") (rIsD X.K p) := by
  intro pins s σ H xs us Q I r h
  obtain ⟨C, dd, fs, c, cv, b, rfl, hz, ⟨vs, hv⟩, hdd, hC, hcv, e, q⟩ := h
  cases r with
  | cons rx rr =>
    cases rr with
    | cons rt rr =>
      cases rr
      cases rx
      have ec := hcv _ rt
      subst ec
      obtain ⟨hget, _⟩ := I.pin p (List.mem_append_left _ hp)
      have hx : ObjOk X.prog X.w H s.heap dd (.xd fs) := I.hok dd _ hdd
      obtain ⟨mA, hns, hr⟩ := hx
      obtain ⟨od, ho, _⟩ := lookIn_ns hns
      have J : PySem.W.InstAt s.heap p.1 p.2 C (some od) := ⟨hget, hz.1, by unfold PySem.W.notCls; rw [hv] <;> rfl, by rw [hz.2]; exact ho⟩
      exact PySem.W.kia_one (PySem.W.kitx_exc hC) I.kIn J e (fun z => nomatch z) fun tk => ⟨.bl b, H, I.kept (t' := tk) fun _ _ z => z, rfl, q⟩
/-- a def called there, by its function over the store: it raises nothing -/
def spDP (P : Program) (w : World) (K : PySem.W.Frag) (n : Nat) (m : List D → Sto → Res D) : Addr × Obj → Sp := fun _ vs H Q _ => spD P w K n m vs H Q fun _ _ _ => False
section
variable {P : Program} {w : World} {K : PySem.W.Frag} {mg : Str → Option Value} {base : Heap} {x qual : Str} {params : Arguments} {body : List Stmt} {scope : Scope} {dvs : List V} {kws : List (Str × V)} {f : Addr} {fd : FuncData} {N ps : List Str} {k : Nat} {m : MS}
theorem fnP_ofS (F : FunD K x qual params body scope dvs kws f fd) (S : FnScope N ps scope)
    (h : ∀ (cdv : Value) (A : Around) (outer : List Env) (s : Shared) (H : Hp) (E : XK) (p : Addr × Obj), RoomH k (A.deeper (envOfC qual scope s.heap.objs.size f cdv)) → SSs (cxH (L2.CX P w) P w K mg base N qual scope f cdv A outer s H E p) body m) :
    FnP P w K mg base (k + 1) f fd ps (spDP P w K ps.length (fnM N.length m)) := by
  refine fnP_of F S (fun p vs H Q E h => h.1) fun cdv A outer s H vs Q E p hr hsp => ?_
  refine ⟨_, (h cdv A outer s H E p hr).run _ takes0, ?_⟩
  obtain ⟨hl, R, S0, ds0, r, hds, q⟩ := hsp
  refine ⟨R, S0, startD N.length ds0, r, start_rel hds, ?_⟩
  have q2 := Out.bind (X := cxH (L2.CX P w) P w K mg base N qual scope f cdv A outer s H E p) (W := fun _ _ _ => False) q
  refine q2.impW (fun fl S1 R1 H1 x1 r1 q3 σ' _ => ?_) fun c d H' z σ' => z
  obtain ⟨fl, l'⟩ := fl
  cases fl with
  | nx => exact Out.pure q3 r1 _ .non
  | bk => exact False.elim q3
  | ct => exact False.elim q3
  | rt d => exact fun v hv => Out.pure q3 r1 v hv
end
def eCallP (n : Nat) (m : List D → Sto → Res D) (a : MA) : ME := fun l S => (a l S).bind fun ds S1 => if ds.length = n then noErr (m ds S1) else .bad
section
variable {X : Cx} {k : Nat} {f : Addr} {fd : FuncData} {ps : List Str} {x : Str} {q pos : Pos} {e : Expr} {es : List Expr} {mA : MA} {m : List D → Sto → Res D}
theorem se_callP {p : Addr × Obj} (F : FnP X.prog X.w X.K X.mg X.base k f fd ps (spDP X.prog X.w X.K ps.length m)) (hr : RoomH k X.A) (hp : p ∈ X.pn) (hg : Gl X x) (hm : X.mg x = some (.ref f)) (hk : PySem.W.keepIn X.K (.ref f) = true) (hb : Binds X.K fd ps [])
    (ha : SA X (e :: es) mA) (hdb : (x == ("__debug__" : Str)) = false := by decide) (he : starEach (e :: es) X.env = (false, eval e X.env) :: starEach es X.env := by rfl) (hpl : (backTo pos (starEach es X.env)).any (·.1) = false := by rfl) :
    SE X (.Call (.Name x q) (e :: es) [] pos) (eCallP ps.length m mA) := ⟨fun W tk => by
  refine PE.mono (pe_callP F hr hp hg hm hk hb (fun σ pins H s e s' I c => ?_) (ha.run W tk) hdb he hpl) fun σ H Q ⟨R, S, l, r, hl, h⟩ => ?_
  · obtain ⟨_, _, _, _, _, _, _, _, _, _, _, _, z⟩ := c
    exact z.elim
  · refine ⟨R, S, l, r, hl, (Out.bind h).imp fun ds S1 R1 H1 x1 r1 q vs hvs => ?_⟩
    by_cases z : ds.length = ps.length
    · rw [if_pos z] at q
      exact ⟨by rw [← hvs.length]; exact z, R1, S1, ds, r1, hvs, noErr_out q⟩
    · rw [if_neg z] at q; exact False.elim q⟩
end
end SL
set_option Elab.async false
set_option linter.all false
set_option maxRecDepth 100000
namespace SL
open PySem PySem.Spec PyProof.Rows L2

/-! ### a call over a prefix of the store; what it leaves behind is dropped -/
def cutAt (n0 : Nat) (S : Sto) : Nat := min n0 S.length
def closedN (n : Nat) (S : Sto) : Bool := (S.take n).all (OB.und n)
def frM (n0 : Nat) (m : List D → Sto → Res D) : List D → Sto → Res D := fun ds S =>
  if D.unds (cutAt n0 S) ds && closedN (cutAt n0 S) S then (match m ds (S.take (cutAt n0 S)) with
    | .ok d S1 => if D.und (cutAt n0 S) d && closedN (cutAt n0 S) S1 then .ok d (S1.take (cutAt n0 S) ++ S.drop (cutAt n0 S)) else .bad
    | .err C fs S1 => if (fs.all fun p => D.und (cutAt n0 S) p.2) && closedN (cutAt n0 S) S1 then .err C fs (S1.take (cutAt n0 S) ++ S.drop (cutAt n0 S)) else .bad
    | .bad => .bad) else .bad
section
variable {P : Program} {w : World} {K : PySem.W.Frag} {R R1 : List Addr} {S S1 : Sto} {H H' : Hp} {n : Nat}
theorem Ext.base {R2 : List Addr} (x : Ext R H R2 H') : Ext R H R H' := ⟨⟨[], by simp, by simp⟩, x.keep, x.frz⟩
theorem take_pre {R2 : List Addr} (x : Ext R H R2 H') : R2.take R.length = R := by
  obtain ⟨⟨N, e, _⟩, _⟩ := x
  rw [e, List.take_left']
  rfl
theorem Rel.merge (r : Rel P w K R S H) (hn : n ≤ S.length) (r1 : Rel P w K R1 S1 H') (x : Ext (R.take n) H R1 H') (c : closedN n S1 = true) : Rel P w K R (S1.take n ++ S.drop n) H' ∧ Ext R H R H' ∧ ∀ d v, DV K R1 H' d v → D.und n d = true → DV K R H' d v := by
  have hl : (R.take n).length = n := by rw [List.length_take, r.len]; omega
  have e1 : R1.take n = R.take n := by
    have z := take_pre x
    rw [hl] at z
    exact z
  have hl1 : n ≤ S1.length := by
    rw [← r1.len]
    have z := congrArg List.length e1
    rw [hl, List.length_take] at z
    omega
  have r2 : Rel P w K (R.take n) (S1.take n) H' := by
    have z := r1.take n c
    rw [e1] at z
    exact z
  have X : Ext R H R H' := ⟨⟨[], by simp, by simp⟩, fun a o h na nt => x.keep a o h (fun z => na (List.mem_of_mem_take z)) nt, x.frz⟩
  have up : ∀ (m : Nat) (a : Addr), (R.take n)[m]? = Option.some a → R[m]? = Option.some a := fun m a e => by
    have hm : m < n := by
      have z := (List.getElem?_eq_some_iff.mp e).1
      omega
    rwa [List.getElem?_take_of_lt hm] at e
  have sq : ∀ a vs, SqT K H a vs → SqT K H' a vs := fun a vs q => r.sq X q
  refine ⟨⟨?_, r.nd, r2.tab, fun m a o h1 h2 => ?_⟩, X, fun d v hd hu => ?_⟩
  · rw [List.length_append, List.length_take, List.length_drop, r.len]
    omega
  · by_cases hm : m < n
    · rw [List.getElem?_append_left (by rw [List.length_take]; omega)] at h2
      exact (r2.ob m a o (by rw [List.getElem?_take_of_lt hm]; exact h1) h2).mono up (fun _ _ q => q) rfl
    · rw [List.getElem?_append_right (by rw [List.length_take]; omega), List.length_take, List.getElem?_drop] at h2
      have e2 : n + (m - min n S1.length) = m := by omega
      rw [e2] at h2
      have old := r.ob m a o h1 h2
      refine old.mono (fun _ _ z => z) sq ?_
      obtain ⟨u, hu, tu⟩ := old.noTup
      rw [hu]
      refine x.keep a u hu (fun z => ?_) fun ps z => by rw [z] at tu; cases tu
      obtain ⟨j, hj⟩ := List.getElem?_of_mem z
      have hjn : j < n := by
        have z := (List.getElem?_eq_some_iff.mp hj).1
        omega
      have hj2 := up j a hj
      obtain ⟨l1, q1⟩ := List.getElem?_eq_some_iff.mp hj2
      obtain ⟨l2, q2⟩ := List.getElem?_eq_some_iff.mp h1
      have e4 : j = m := (List.getElem_inj r.nd).mp (q1.trans q2.symm)
      omega
  · have z := hd.cut (n := n) hu
    rw [e1] at z
    exact z.mono up fun _ _ q => q
theorem closedN_and {a b : Bool} (h : (a && b) = true) : a = true ∧ b = true := Bool.and_eq_true_iff.mp h
theorem PD.und {κ : Type} (f : ∀ d v, DV K R1 H d v → D.und n d = true → DV K R H d v) : ∀ {l : List (κ × D)} {m : List (κ × V)}, PD K R1 H l m → (l.all fun p => D.und n p.2) = true → PD K R H l m
  | _, _, .nil, _ => .nil
  | _, _, .cons h t, e => by
    rw [List.all_cons, Bool.and_eq_true] at e
    exact .cons ⟨h.1, f _ _ h.2 e.1⟩ (PD.und f t e.2)
theorem frM_out {n0 : Nat} {m : List D → Sto → Res D} {ds : List D} {vs : List V} {W : Value → Option Addr → Hp → Prop} {Q : D → Sto → List Addr → Hp → Prop} (r : Rel P w K R S H) (hv : DVs K R H ds vs)
    (Qm : ∀ d S1 R1 S2 R2 H', (∀ v, DV K R1 H' d v → DV K R2 H' d v) → Q d S2 R2 H' → Q d S1 R1 H')
    (h : OutP P w K (frM n0 m ds S) R H W Q) : ∃ R0 S0, Rel P w K R0 S0 H ∧ DVs K R0 H ds vs ∧ OutP P w K (m ds S0) R0 H W Q := by
  have hn : cutAt n0 S ≤ S.length := Nat.min_le_right _ _
  unfold frM at h
  by_cases c : (D.unds (cutAt n0 S) ds && closedN (cutAt n0 S) S) = true
  · rw [if_pos c] at h
    obtain ⟨c1, c2⟩ := closedN_and c
    refine ⟨R.take (cutAt n0 S), S.take (cutAt n0 S), r.take _ c2, hv.cutN c1, ?_⟩
    cases e : m ds (S.take (cutAt n0 S)) with
    | bad => rw [e] at h; exact h
    | ok d S1 =>
      rw [e] at h
      dsimp only at h
      by_cases c' : (D.und (cutAt n0 S) d && closedN (cutAt n0 S) S1) = true
      · rw [if_pos c'] at h
        obtain ⟨c3, c4⟩ := closedN_and c'
        intro R1 H1 x1 r1
        obtain ⟨r2, x2, up⟩ := r.merge hn r1 x1 c4
        exact Qm d S1 R1 _ R H1 (fun v q => up d v q c3) (h R H1 x2 r2)
      · rw [if_neg c'] at h; exact False.elim h
    | err C fs S1 =>
      rw [e] at h
      dsimp only at h
      by_cases c' : ((fs.all fun p => D.und (cutAt n0 S) p.2) && closedN (cutAt n0 S) S1) = true
      · rw [if_pos c'] at h
        obtain ⟨c3, c4⟩ := closedN_and c'
        intro R1 H1 dx x1 r1 q
        obtain ⟨r2, x2, up⟩ := r.merge hn r1 x1 c4
        refine h R H1 dx x2 r2 ?_
        rcases q with q | ⟨d, fs', q1, q2, q3⟩
        · exact .inl q
        · exact .inr ⟨d, fs', q1, q2, q3.und up c3⟩
      · rw [if_neg c'] at h; exact False.elim h
  · rw [if_neg c] at h; exact False.elim h
theorem spD_frM {n0 k : Nat} {m : List D → Sto → Res D} {vs : List V} {Q : VK} {E : XK} (h : spD P w K k (frM n0 m) vs H Q E) : spD P w K k m vs H Q E := by
  obtain ⟨hl, R, S, ds, r, hv, q⟩ := h
  obtain ⟨R0, S0, r0, h0, q0⟩ := frM_out r hv (fun d S1 R1 S2 R2 H' f q v hv => q v (f v hv)) q
  exact ⟨hl, R0, S0, ds, r0, h0, q0⟩
end
theorem FnA.fr {P : Program} {w : World} {K : PySem.W.Frag} {mg : Str → Option Value} {base : Heap} {f : Addr} {ps : List Str} {dds : List D} {k : Nat} {m : List D → Sto → Res D} (n0 : Nat) (F : FnA P w K mg base f ps dds k m) : FnA P w K mg base f ps dds k (frM n0 m) := by
  obtain ⟨⟨fd, ds, dvs, ⟨hl, hr⟩, hb, hd, hdd⟩, kp⟩ := F
  refine ⟨⟨fd, ds, dvs, ⟨fun vs H Q E h => h.1, fun A outer s H args us vs Q E h1 h2 h3 h4 h5 => ?_⟩, hb, hd, hdd⟩, kp⟩
  exact hr A outer s H args us vs Q E h1 h2 h3 h4 (spD_frM h5)

/-! ### what a statement leaves behind is dropped -/
def keepD (n : Nat) : Option D → Option D
  | some d => if D.und n d then some d else none
  | none => none
def Fl.und (n : Nat) : Fl → Bool
  | .rt d => D.und n d
  | _ => true
def gcS (m : MS) : MS := fun l S => match m l S with
  | .ok fl S' => if Fl.und S.length fl.1 && closedN S.length S' then .ok (fl.1, fl.2.map (keepD S.length)) (S'.take S.length) else .bad
  | r => r
section
variable {X : Cx} {st : Stmt} {sts : List Stmt} {m : MS}
theorem gc_run {W : WX} {Dn : Ends} {σ : L2.St} {H : Hp} (h : liftS X (gcS m) W Dn σ H) : liftS X m W Dn σ H := by
  obtain ⟨R, S, l, r, hl, h⟩ := h
  refine ⟨R, S, l, r, hl, ?_⟩
  unfold gcS at h
  cases e : m l S with
  | bad => rw [e] at h; exact h
  | err C fs S1 => rw [e] at h; exact h
  | ok fl S1 =>
    rw [e] at h
    dsimp only at h
    by_cases c : (Fl.und S.length fl.1 && closedN S.length S1) = true
    · rw [if_pos c] at h
      obtain ⟨c1, c2⟩ := closedN_and c
      intro R1 H1 x1 r1 σ' hl'
      have e1 : R1.take S.length = R := by rw [← r.len]; exact take_pre x1
      have r2 : RelX X R (S1.take S.length) H1 := by
        have z := r1.take S.length c2
        rw [e1] at z
        exact z
      have hl2 : LocR X.K R H1 (fl.2.map (keepD S.length)) σ' := by
        refine ⟨by rw [List.length_map]; exact hl'.1, fun i d hd => ?_⟩
        rw [List.getElem?_map] at hd
        cases q : fl.2[i]? with
        | none => rw [q] at hd; cases hd
        | some o =>
          rw [q] at hd
          have hd : keepD S.length o = some d := Option.some.inj hd
          cases o with
          | none => cases hd
          | some d' =>
            have hd : (if D.und S.length d' then some d' else none) = some d := hd
            by_cases u : D.und S.length d' = true
            · rw [if_pos u] at hd
              cases hd
              obtain ⟨v, h1, h2⟩ := hl'.2 i d q
              refine ⟨v, h1, ?_⟩
              have z := h2.cut u
              rw [e1] at z
              exact z
            · rw [if_neg u] at hd; cases hd
      have z := h R H1 x1.base r2 σ' hl2
      obtain ⟨fl, l'⟩ := fl
      cases fl with
      | nx => exact z
      | bk => exact z
      | ct => exact z
      | rt d =>
        intro v hv
        refine z v ?_
        have q := hv.cut (n := S.length) c1
        rw [e1] at q
        exact q
    · rw [if_neg c] at h; exact False.elim h
theorem ss_gc (h : SS X st m) : SS X st (gcS m) := ⟨fun W tk => PS.mono (h.run W tk) fun _ _ _ q => gc_run q⟩
theorem sss_gc (h : SSs X sts m) : SSs X sts (gcS m) := ⟨fun W tk => PSs.mono (h.run W tk) fun _ _ _ q => gc_run q⟩
end
end SL
set_option Elab.async false
set_option linter.all false
set_option maxRecDepth 100000
namespace SL
open PySem PySem.Spec PyProof.Rows L2 L2H

/-! ### f() -/
section
variable {X : Cx} {pos p : Pos} {x : Str} {ps : List Str} {dds : List D} {j k : Nat} {m : List D → Sto → Res D}
theorem se_call0 (F : FnA X.prog X.w X.K X.mg X.base (He.ga X.K x) ps dds j m) (hr : Room k X.A) (hg : Gl X x) (hm : X.mg x = some (.ref (He.ga X.K x))) (hj : j ≤ k := by decide) (hdb : (x == ("__debug__" : Str)) = false := by decide) :
    SE X (.Call (.Name x p) [] [] pos) (eCall ps.length dds m aNil) := ⟨fun W tk => by
  obtain ⟨⟨fd, ds, dvs, F, hb, hd, hdd⟩, kp⟩ := F
  refine ⟨fun pins s σ H Q I ⟨R, S, l, r, hl, h⟩ => ?_⟩
  refine wpAny_Call_Name_kw (ld_glob I hg hm ?_ hdb)
  refine PySem.W.callWith_K0 I.kIn kp (run_fnSD (us := []) (vs := []) (E := fun σ => WE W σ) F (hr.mono hj) hb hd (passAt tk σ) I .nil ?_)
  have q := Out.pure (Out.bind h) r
  by_cases z : ([] ++ dds).length = ps.length
  · rw [if_pos z] at q
    exact sp_of r (DVs.append .nil (hdd _ _)) z q
  · rw [if_neg z] at q; exact False.elim q⟩
end
/-! ### what an own exception class says -/
theorem excCB_ok {K : PySem.W.Frag} {D : Addr} (h : excCB K D = true) : ExcC K D := by
  obtain ⟨h1, h⟩ := Bool.and_eq_true_iff.mp h
  obtain ⟨h2, h⟩ := Bool.and_eq_true_iff.mp h
  obtain ⟨h3, h⟩ := Bool.and_eq_true_iff.mp h
  obtain ⟨h4, h⟩ := Bool.and_eq_true_iff.mp h
  obtain ⟨h5, h⟩ := Bool.and_eq_true_iff.mp h
  obtain ⟨h6, h⟩ := Bool.and_eq_true_iff.mp h
  obtain ⟨h7, h8⟩ := Bool.and_eq_true_iff.mp h
  exact ⟨of_decide_eq_true h1, of_decide_eq_true h2, of_decide_eq_true h3, h4, of_decide_eq_true h5, of_decide_eq_true h6, of_decide_eq_true h7, of_decide_eq_true h8⟩
/-! ### if isinstance(e, X): return 'X', e the handled exception -/
/-- e is in slot 0; it is of the class C, its dict at dd -/
structure EAt (K : PySem.W.Frag) (p : Addr × Obj) (C dd : Addr) (fs : List (Str × V)) (σ : L2.St) (H : Hp) : Prop where
  s0 : σ[0]? = some (some (.ref p.1))
  z : Zc (.ref C) (some dd) p.2
  f : ∃ vs, p.2.data = .fields vs
  d : H dd = some (.xd fs)
  c : ExcC K C
/-- the test -/
def tIsd (K : PySem.W.Frag) (p : Addr × Obj) (x : Str) : TT := fun σ H Q => ∃ C dd fs b, EAt K p C dd fs σ H ∧ PySem.W.kitOne K (.ref C) (.ref (He.ga K x)) = some b ∧ Q b H
section
variable {X : Cx} {p : Addr × Obj} {x n : Str} {p1 p2 p3 p4 : Pos}
theorem pt_isd (hp : p ∈ X.pn) (hn : X.N[0]? = some n) (hv : Vis X.env.scope n) (hgi : Gl X "isinstance") (hmi : X.mg "isinstance" = none) (hbi : bootBuiltins ("isinstance" : Str) = some (.builtin "isinstance")) (hg : Gl X x) (hm : X.mg x = some (.ref (He.ga X.K x)))
    (hst : starEach [.Name n p2, .Name x p3] X.env = [(false, eval (.Name n p2) X.env), (false, eval (.Name x p3) X.env)] := by rfl)
    (hd : (n == ("__debug__" : Str)) = false := by decide) (hcd : (n == ("__classdict__" : Str)) = false := by decide) (hdb : (x == ("__debug__" : Str)) = false := by decide) :
    PT X (.Call (.Name "isinstance" p1) [.Name n p2, .Name x p3] [] p4) (tIsd X.K p x) := by
  refine PT.mono (pt_val (pe_callB (call_isD hp) hgi hmi hbi (pa_cons (pe_var hn hv hd hcd) (pa_cons (pe_glob hg hm (v := .ref (He.ga X.K x)) rfl hdb) pa_nil))) (by intro _; rfl)) fun σ H Q ⟨C, dd, fs, b, a, k, q⟩ => ?_
  exact ⟨_, a.s0, C, dd, fs, _, _, b, rfl, a.z, a.f, a.d, a.c, fun u r => r, k, b, rfl, q⟩
end
end SL
set_option Elab.async false
set_option linter.all false
set_option maxRecDepth 100000
namespace SL
open PySem PySem.Spec PyProof.Rows L2

/-! ### the script + a list -/
def rCatS (K : PySem.W.Frag) : R2 := fun x y H Q => ∃ l b xs zs, x = .ref l ∧ y = .ref b ∧ SqL K H l xs ∧ SqL K H b zs ∧ xs.length + zs.length ≤ sizeLine ∧ ∀ p, H p = none → Q (.ref p) (upd H p (.lst (xs ++ zs)))
theorem op_catS {X : Cx} : OpR X (binaryOp .Add) (rCatS X.K) := by
  intro pins s σ H x y v u Q I rx ry h
  obtain ⟨l, b, xs, zs, rfl, rfl, hl, hb, hz, q⟩ := h
  cases rx
  cases ry
  obtain ⟨i1, r1, ⟨⟨c1, d1, t1, s1⟩, n1, g1, hc1, hd1, ht1⟩, z1⟩ := I.list hl
  obtain ⟨i2, r2, ⟨⟨c2, d2, t2, s2⟩, n2, g2, hc2, hd2, ht2⟩, z2⟩ := I.list hb
  simp only at hc1 hd1 ht1 hc2 hd2 ht2
  subst hc1 hd1 ht1 hc2 hd2 ht2
  have e : i1.toArray ++ i2.toArray = (i1 ++ i2).toArray := by simp
  have hsz : i1.toArray.size + i2.toArray.size ≤ sizeLine := by
    rw [List.size_toArray, List.size_toArray, ← r1.length, ← r2.length]
    exact hz
  refine concat_meets ⟨_, g1, rfl⟩ ⟨_, g2, rfl⟩ noFill_list_add seq_list_add PySem.F.slot_list_add PySem.F.entry_list_add (PySem.F.args_list_add_2 _ _) (list_addW l b i1.toArray i2.toArray n1 n2 none none s1 s2 hsz) ⟨g1, g2, ?_⟩
  rw [e]
  exact ⟨.ref _, _, I.lnew (t' := s.toks) (r1.append r2) (by rw [List.length_append]; omega), rfl, q _ I.fresh⟩
end SL
set_option Elab.async false
set_option linter.all false
set_option maxRecDepth 100000
set_option maxHeartbeats 0
namespace SG
open PySem PySem.Spec PyProof.Rows L2 SL
/-! what is known of the written part -/
structure Fx (K : PySem.W.Frag) (w : World) (mg : Str → Option Value) : Prop where
  ex : ∃ (h : Heap) (tf : List He.Defn) (hf : List He.Defn), K.In h ∧ h.Ns mainGlobals mg ∧ He.SaysX fa fn ts tf SG.ex w h K
section
variable {P : Program} {K : PySem.W.Frag} {w : World} {mg : Str → Option Value} {base : Heap}
theorem Fx.fact (F : Fx K w mg) (i : Nat) {f : He.Fa} (h : fa[i]? = some f := by rfl) : f.ok K = true := by
  obtain ⟨_, _, _, _, _, c⟩ := F.ex
  exact c.t.d.fact i h
theorem Fx.def_ (F : Fx K w mg) (i : Nat) {d : He.DefD} (h : fn[i]? = some d := by rfl) : ∃ fd, FunD K d.name d.qual d.params d.body d.scope (d.dvs K) (d.kws K) (He.fAd K d.at_) fd := by
  obtain ⟨_, _, _, _, _, c⟩ := F.ex
  exact c.t.d.def_ i h
theorem Fx.more (F : Fx K w mg) (i : Nat) {b : Bool} (h : (exL K)[i]? = some b := by rfl) : b = true := by
  obtain ⟨_, _, _, _, _, c⟩ := F.ex
  exact List.all_eq_true.mp (show (exL K).all id = true from c.more) b (List.mem_of_getElem? h)
theorem Fx.gl (F : Fx K w mg) (i : Nat) {x : Str} (h : fa[i]? = some (.glo x) := by rfl) : mg x = some (.ref (He.ga K x)) := by
  obtain ⟨h0, _, _, X, G, c⟩ := F.ex
  exact He.glo_ok X G (c.t.d.fact i h)
theorem Fx.nb (F : Fx K w mg) (i : Nat) {x : Str} (h : fa[i]? = some (.free x) := by rfl) : mg x = none := by
  obtain ⟨h0, _, _, X, G, c⟩ := F.ex
  exact He.free_ok X G (c.t.d.fact i h)
theorem Fx.ld (F : Fx K w mg) (i : Nat) {x : Str} {d : D} (h : (exL K)[i]? = some (gldB K x d) := by rfl) : ∃ u, mg x = some u ∧ dvB K d u = true := by
  obtain ⟨h0, _, _, X, G, c⟩ := F.ex
  exact gldB_ok X G (F.more i h)
theorem g_WorldError (F : Fx K w mg) : mg "WorldError" = some (.ref (He.ga K "WorldError")) := F.gl 0
theorem g_NoClass (F : Fx K w mg) : mg "NoClass" = some (.ref (He.ga K "NoClass")) := F.gl 1
theorem g_NoField (F : Fx K w mg) : mg "NoField" = some (.ref (He.ga K "NoField")) := F.gl 2
theorem g_NoFit (F : Fx K w mg) : mg "NoFit" = some (.ref (He.ga K "NoFit")) := F.gl 3
theorem g_TooDeep (F : Fx K w mg) : mg "TooDeep" = some (.ref (He.ga K "TooDeep")) := F.gl 4
theorem g_NoFunction (F : Fx K w mg) : mg "NoFunction" = some (.ref (He.ga K "NoFunction")) := F.gl 5
theorem g_NoSignature (F : Fx K w mg) : mg "NoSignature" = some (.ref (He.ga K "NoSignature")) := F.gl 6
theorem g_NoMethod (F : Fx K w mg) : mg "NoMethod" = some (.ref (He.ga K "NoMethod")) := F.gl 7
theorem g_Ambiguous (F : Fx K w mg) : mg "Ambiguous" = some (.ref (He.ga K "Ambiguous")) := F.gl 8
theorem g_NoValues (F : Fx K w mg) : mg "NoValues" = some (.ref (He.ga K "NoValues")) := F.gl 9
theorem g_NoSteps (F : Fx K w mg) : mg "NoSteps" = some (.ref (He.ga K "NoSteps")) := F.gl 10
theorem g_NotInt (F : Fx K w mg) : mg "NotInt" = some (.ref (He.ga K "NotInt")) := F.gl 11
theorem g_TooLong (F : Fx K w mg) : mg "TooLong" = some (.ref (He.ga K "TooLong")) := F.gl 12
theorem g_NoTask (F : Fx K w mg) : mg "NoTask" = some (.ref (He.ga K "NoTask")) := F.gl 13
theorem g_NoChange (F : Fx K w mg) : mg "NoChange" = some (.ref (He.ga K "NoChange")) := F.gl 14
theorem g_NoStep (F : Fx K w mg) : mg "NoStep" = some (.ref (He.ga K "NoStep")) := F.gl 15
theorem g_is_integer (F : Fx K w mg) : mg "is_integer" = some (.ref (He.ga K "is_integer")) := F.gl 16
theorem g_is_between (F : Fx K w mg) : mg "is_between" = some (.ref (He.ga K "is_between")) := F.gl 17
theorem g_is_name (F : Fx K w mg) : mg "is_name" = some (.ref (He.ga K "is_name")) := F.gl 18
theorem g_Kind (F : Fx K w mg) : mg "Kind" = some (.ref (He.ga K "Kind")) := F.gl 19
theorem g_Runtime (F : Fx K w mg) : mg "Runtime" = some (.ref (He.ga K "Runtime")) := F.gl 20
theorem g_now (F : Fx K w mg) : mg "now" = some (.ref (He.ga K "now")) := F.gl 21
theorem g_world_of (F : Fx K w mg) : mg "world_of" = some (.ref (He.ga K "world_of")) := F.gl 22
theorem g_is_class (F : Fx K w mg) : mg "is_class" = some (.ref (He.ga K "is_class")) := F.gl 23
theorem g_check_class (F : Fx K w mg) : mg "check_class" = some (.ref (He.ga K "check_class")) := F.gl 24
theorem g_line_of (F : Fx K w mg) : mg "line_of" = some (.ref (He.ga K "line_of")) := F.gl 25
theorem g_known (F : Fx K w mg) : mg "known" = some (.ref (He.ga K "known")) := F.gl 26
theorem g_seen (F : Fx K w mg) : mg "seen" = some (.ref (He.ga K "seen")) := F.gl 27
theorem g_below (F : Fx K w mg) : mg "below" = some (.ref (He.ga K "below")) := F.gl 28
theorem g_all_below (F : Fx K w mg) : mg "all_below" = some (.ref (He.ga K "all_below")) := F.gl 29
theorem g_own_fields (F : Fx K w mg) : mg "own_fields" = some (.ref (He.ga K "own_fields")) := F.gl 30
theorem g_add_class (F : Fx K w mg) : mg "add_class" = some (.ref (He.ga K "add_class")) := F.gl 31
theorem g_classes (F : Fx K w mg) : mg "classes" = some (.ref (He.ga K "classes")) := F.gl 32
theorem g_LENGTHS_bodies (F : Fx K w mg) : mg "LENGTHS_bodies" = some (.ref (He.ga K "LENGTHS_bodies")) := F.gl 33
theorem g_WITHIN (F : Fx K w mg) : mg "WITHIN" = some (.ref (He.ga K "WITHIN")) := F.gl 34
theorem g_Place (F : Fx K w mg) : mg "Place" = some (.ref (He.ga K "Place")) := F.gl 35
theorem g_is_signature (F : Fx K w mg) : mg "is_signature" = some (.ref (He.ga K "is_signature")) := F.gl 36
theorem g_indexes_within (F : Fx K w mg) : mg "indexes_within" = some (.ref (He.ga K "indexes_within")) := F.gl 37
theorem g_is_call_part (F : Fx K w mg) : mg "is_call_part" = some (.ref (He.ga K "is_call_part")) := F.gl 38
theorem g_is_new_part (F : Fx K w mg) : mg "is_new_part" = some (.ref (He.ga K "is_new_part")) := F.gl 39
theorem g_is_leaf_part (F : Fx K w mg) : mg "is_leaf_part" = some (.ref (He.ga K "is_leaf_part")) := F.gl 40
theorem g_is_valid_part (F : Fx K w mg) : mg "is_valid_part" = some (.ref (He.ga K "is_valid_part")) := F.gl 41
theorem g_places_within (F : Fx K w mg) : mg "places_within" = some (.ref (He.ga K "places_within")) := F.gl 42
theorem g_check_valid (F : Fx K w mg) : mg "check_valid" = some (.ref (He.ga K "check_valid")) := F.gl 43
theorem g_check_function (F : Fx K w mg) : mg "check_function" = some (.ref (He.ga K "check_function")) := F.gl 44
theorem g_check_signature (F : Fx K w mg) : mg "check_signature" = some (.ref (He.ga K "check_signature")) := F.gl 45
theorem g_define_in (F : Fx K w mg) : mg "define_in" = some (.ref (He.ga K "define_in")) := F.gl 46
theorem g_define (F : Fx K w mg) : mg "define" = some (.ref (He.ga K "define")) := F.gl 47
theorem g_methods (F : Fx K w mg) : mg "methods" = some (.ref (He.ga K "methods")) := F.gl 48
theorem g_signatures_of (F : Fx K w mg) : mg "signatures_of" = some (.ref (He.ga K "signatures_of")) := F.gl 49
theorem g_selected_methods (F : Fx K w mg) : mg "selected_methods" = some (.ref (He.ga K "selected_methods")) := F.gl 50
theorem g_Thing (F : Fx K w mg) : mg "Thing" = some (.ref (He.ga K "Thing")) := F.gl 51
theorem g_is_value (F : Fx K w mg) : mg "is_value" = some (.ref (He.ga K "is_value")) := F.gl 52
theorem g_class_of (F : Fx K w mg) : mg "class_of" = some (.ref (He.ga K "class_of")) := F.gl 53
theorem g_seen_of (F : Fx K w mg) : mg "seen_of" = some (.ref (He.ga K "seen_of")) := F.gl 54
theorem g_Follower (F : Fx K w mg) : mg "Follower" = some (.ref (He.ga K "Follower")) := F.gl 55
theorem g_Scope (F : Fx K w mg) : mg "Scope" = some (.ref (He.ga K "Scope")) := F.gl 56
theorem g_Frame (F : Fx K w mg) : mg "Frame" = some (.ref (He.ga K "Frame")) := F.gl 57
theorem g_raise_again (F : Fx K w mg) : mg "raise_again" = some (.ref (He.ga K "raise_again")) := F.gl 58
theorem g_Machine (F : Fx K w mg) : mg "Machine" = some (.ref (He.ga K "Machine")) := F.gl 59
theorem g_check_question (F : Fx K w mg) : mg "check_question" = some (.ref (He.ga K "check_question")) := F.gl 60
theorem g_check_steps (F : Fx K w mg) : mg "check_steps" = some (.ref (He.ga K "check_steps")) := F.gl 61
theorem g_world_for (F : Fx K w mg) : mg "world_for" = some (.ref (He.ga K "world_for")) := F.gl 62
theorem g_begin (F : Fx K w mg) : mg "begin" = some (.ref (He.ga K "begin")) := F.gl 63
theorem g_task_of (F : Fx K w mg) : mg "task_of" = some (.ref (He.ga K "task_of")) := F.gl 64
theorem g_result (F : Fx K w mg) : mg "result" = some (.ref (He.ga K "result")) := F.gl 65
theorem g_asked_of (F : Fx K w mg) : mg "asked_of" = some (.ref (He.ga K "asked_of")) := F.gl 66
theorem g_check_changes (F : Fx K w mg) : mg "check_changes" = some (.ref (He.ga K "check_changes")) := F.gl 67
theorem g_PERFORMED (F : Fx K w mg) : mg "PERFORMED" = some (.ref (He.ga K "PERFORMED")) := F.gl 68
theorem g_is_step (F : Fx K w mg) : mg "is_step" = some (.ref (He.ga K "is_step")) := F.gl 69
theorem g_performed (F : Fx K w mg) : mg "performed" = some (.ref (He.ga K "performed")) := F.gl 70
theorem g__law_draw (F : Fx K w mg) : mg "_law_draw" = some (.ref (He.ga K "_law_draw")) := F.gl 71
theorem g__law_one (F : Fx K w mg) : mg "_law_one" = some (.ref (He.ga K "_law_one")) := F.gl 72
theorem g_Taken (F : Fx K w mg) : mg "Taken" = some (.ref (He.ga K "Taken")) := F.gl 73
theorem g_NoBody (F : Fx K w mg) : mg "NoBody" = some (.ref (He.ga K "NoBody")) := F.gl 74
theorem g_NotThere (F : Fx K w mg) : mg "NotThere" = some (.ref (He.ga K "NotThere")) := F.gl 75
theorem g_NoWorld (F : Fx K w mg) : mg "NoWorld" = some (.ref (He.ga K "NoWorld")) := F.gl 76
theorem g_NotEnded (F : Fx K w mg) : mg "NotEnded" = some (.ref (He.ga K "NotEnded")) := F.gl 77
theorem g_change_error (F : Fx K w mg) : mg "change_error" = some (.ref (He.ga K "change_error")) := F.gl 78
theorem g_call_error (F : Fx K w mg) : mg "call_error" = some (.ref (He.ga K "call_error")) := F.gl 79
theorem g__law_said (F : Fx K w mg) : mg "_law_said" = some (.ref (He.ga K "_law_said")) := F.gl 80
theorem g_law (F : Fx K w mg) : mg "law" = some (.ref (He.ga K "law")) := F.gl 81
theorem g_counts (F : Fx K w mg) : mg "counts" = some (.ref (He.ga K "counts")) := F.gl 82
theorem g_do (F : Fx K w mg) : mg "do" = some (.ref (He.ga K "do")) := F.gl 83
theorem g__law_untouched (F : Fx K w mg) : mg "_law_untouched" = some (.ref (He.ga K "_law_untouched")) := F.gl 84
theorem g__law_well (F : Fx K w mg) : mg "_law_well" = some (.ref (He.ga K "_law_well")) := F.gl 85
theorem g__law_begun (F : Fx K w mg) : mg "_law_begun" = some (.ref (He.ga K "_law_begun")) := F.gl 86
theorem g__law_no_steps (F : Fx K w mg) : mg "_law_no_steps" = some (.ref (He.ga K "_law_no_steps")) := F.gl 87
theorem g__law_steps (F : Fx K w mg) : mg "_law_steps" = some (.ref (He.ga K "_law_steps")) := F.gl 88
theorem n_len (F : Fx K w mg) : mg "len" = none := F.nb 89
theorem n_int (F : Fx K w mg) : mg "int" = none := F.nb 90
theorem n_isinstance (F : Fx K w mg) : mg "isinstance" = none := F.nb 91
theorem n_all (F : Fx K w mg) : mg "all" = none := F.nb 92
theorem n_tuple (F : Fx K w mg) : mg "tuple" = none := F.nb 93
theorem n_sorted (F : Fx K w mg) : mg "sorted" = none := F.nb 94
theorem n_list (F : Fx K w mg) : mg "list" = none := F.nb 95
theorem n_dict (F : Fx K w mg) : mg "dict" = none := F.nb 96
theorem n_bool (F : Fx K w mg) : mg "bool" = none := F.nb 97
theorem n_str (F : Fx K w mg) : mg "str" = none := F.nb 98
theorem n_range (F : Fx K w mg) : mg "range" = none := F.nb 99
theorem n_enumerate (F : Fx K w mg) : mg "enumerate" = none := F.nb 100
theorem n_zip (F : Fx K w mg) : mg "zip" = none := F.nb 101
theorem c_Kind (F : Fx K w mg) : Cls K (He.ga K "Kind") := He.cls_ok (F.fact 102 (f := .cls "Kind"))
theorem c_Runtime (F : Fx K w mg) : Cls K (He.ga K "Runtime") := He.cls_ok (F.fact 103 (f := .cls "Runtime"))
theorem c_Place (F : Fx K w mg) : Cls K (He.ga K "Place") := He.cls_ok (F.fact 104 (f := .cls "Place"))
theorem c_Follower (F : Fx K w mg) : Cls K (He.ga K "Follower") := He.cls_ok (F.fact 105 (f := .cls "Follower"))
theorem c_Scope (F : Fx K w mg) : Cls K (He.ga K "Scope") := He.cls_ok (F.fact 106 (f := .cls "Scope"))
theorem c_Frame (F : Fx K w mg) : Cls K (He.ga K "Frame") := He.cls_ok (F.fact 107 (f := .cls "Frame"))
theorem c_Machine (F : Fx K w mg) : Cls K (He.ga K "Machine") := He.cls_ok (F.fact 108 (f := .cls "Machine"))
theorem c_Look (F : Fx K w mg) : Cls K (He.ga K "Look") := He.cls_ok (F.fact 109 (f := .cls "Look"))
theorem c_Solution (F : Fx K w mg) : Cls K (He.ga K "Solution") := He.cls_ok (F.fact 110 (f := .cls "Solution"))
theorem c_Counter (F : Fx K w mg) : Cls K (He.ga K "Counter") := He.cls_ok (F.fact 111 (f := .cls "Counter"))
def cs_world : List Str := ["Scope", "Solution"]
theorem f_world (F : Fx K w mg) : ∀ C ∈ cs_world, FldOk K C "world" := by
  intro C hC
  simp only [cs_world, List.mem_cons, List.not_mem_nil, or_false] at hC
  rcases hC with rfl | rfl
  · exact ⟨c_Scope F, He.noat_ok (F.fact 112 (f := .noat "Scope" "world"))⟩
  · exact ⟨c_Solution F, He.noat_ok (F.fact 113 (f := .noat "Solution" "world"))⟩
def cs_path : List Str := ["Place", "Frame"]
theorem f_path (F : Fx K w mg) : ∀ C ∈ cs_path, FldOk K C "path" := by
  intro C hC
  simp only [cs_path, List.mem_cons, List.not_mem_nil, or_false] at hC
  rcases hC with rfl | rfl
  · exact ⟨c_Place F, He.noat_ok (F.fact 114 (f := .noat "Place" "path"))⟩
  · exact ⟨c_Frame F, He.noat_ok (F.fact 115 (f := .noat "Frame" "path"))⟩
def cs_given : List Str := ["Scope"]
theorem f_given (F : Fx K w mg) : ∀ C ∈ cs_given, FldOk K C "given" := by
  intro C hC
  simp only [cs_given, List.mem_cons, List.not_mem_nil, or_false] at hC
  subst hC
  exact ⟨c_Scope F, He.noat_ok (F.fact 116 (f := .noat "Scope" "given"))⟩
def cs_parent : List Str := ["Kind"]
theorem f_parent (F : Fx K w mg) : ∀ C ∈ cs_parent, FldOk K C "parent" := by
  intro C hC
  simp only [cs_parent, List.mem_cons, List.not_mem_nil, or_false] at hC
  subst hC
  exact ⟨c_Kind F, He.noat_ok (F.fact 117 (f := .noat "Kind" "parent"))⟩
def cs_fields : List Str := ["Kind"]
theorem f_fields (F : Fx K w mg) : ∀ C ∈ cs_fields, FldOk K C "fields" := by
  intro C hC
  simp only [cs_fields, List.mem_cons, List.not_mem_nil, or_false] at hC
  subst hC
  exact ⟨c_Kind F, He.noat_ok (F.fact 118 (f := .noat "Kind" "fields"))⟩
def cs_since : List Str := ["Kind"]
theorem f_since (F : Fx K w mg) : ∀ C ∈ cs_since, FldOk K C "since" := by
  intro C hC
  simp only [cs_since, List.mem_cons, List.not_mem_nil, or_false] at hC
  subst hC
  exact ⟨c_Kind F, He.noat_ok (F.fact 119 (f := .noat "Kind" "since"))⟩
def cs_kinds : List Str := ["Runtime"]
theorem f_kinds (F : Fx K w mg) : ∀ C ∈ cs_kinds, FldOk K C "kinds" := by
  intro C hC
  simp only [cs_kinds, List.mem_cons, List.not_mem_nil, or_false] at hC
  subst hC
  exact ⟨c_Runtime F, He.noat_ok (F.fact 120 (f := .noat "Runtime" "kinds"))⟩
def cs_tables : List Str := ["Runtime"]
theorem f_tables (F : Fx K w mg) : ∀ C ∈ cs_tables, FldOk K C "tables" := by
  intro C hC
  simp only [cs_tables, List.mem_cons, List.not_mem_nil, or_false] at hC
  subst hC
  exact ⟨c_Runtime F, He.noat_ok (F.fact 121 (f := .noat "Runtime" "tables"))⟩
def cs_entries : List Str := ["Runtime"]
theorem f_entries (F : Fx K w mg) : ∀ C ∈ cs_entries, FldOk K C "entries" := by
  intro C hC
  simp only [cs_entries, List.mem_cons, List.not_mem_nil, or_false] at hC
  subst hC
  exact ⟨c_Runtime F, He.noat_ok (F.fact 122 (f := .noat "Runtime" "entries"))⟩
def cs_tasks : List Str := ["Runtime"]
theorem f_tasks (F : Fx K w mg) : ∀ C ∈ cs_tasks, FldOk K C "tasks" := by
  intro C hC
  simp only [cs_tasks, List.mem_cons, List.not_mem_nil, or_false] at hC
  subst hC
  exact ⟨c_Runtime F, He.noat_ok (F.fact 123 (f := .noat "Runtime" "tasks"))⟩
def cs_solutions : List Str := ["Runtime"]
theorem f_solutions (F : Fx K w mg) : ∀ C ∈ cs_solutions, FldOk K C "solutions" := by
  intro C hC
  simp only [cs_solutions, List.mem_cons, List.not_mem_nil, or_false] at hC
  subst hC
  exact ⟨c_Runtime F, He.noat_ok (F.fact 124 (f := .noat "Runtime" "solutions"))⟩
def cs_shapes : List Str := ["Runtime"]
theorem f_shapes (F : Fx K w mg) : ∀ C ∈ cs_shapes, FldOk K C "shapes" := by
  intro C hC
  simp only [cs_shapes, List.mem_cons, List.not_mem_nil, or_false] at hC
  subst hC
  exact ⟨c_Runtime F, He.noat_ok (F.fact 125 (f := .noat "Runtime" "shapes"))⟩
def cs_made : List Str := ["Runtime"]
theorem f_made (F : Fx K w mg) : ∀ C ∈ cs_made, FldOk K C "made" := by
  intro C hC
  simp only [cs_made, List.mem_cons, List.not_mem_nil, or_false] at hC
  subst hC
  exact ⟨c_Runtime F, He.noat_ok (F.fact 126 (f := .noat "Runtime" "made"))⟩
def cs_piece : List Str := ["Place", "Frame"]
theorem f_piece (F : Fx K w mg) : ∀ C ∈ cs_piece, FldOk K C "piece" := by
  intro C hC
  simp only [cs_piece, List.mem_cons, List.not_mem_nil, or_false] at hC
  rcases hC with rfl | rfl
  · exact ⟨c_Place F, He.noat_ok (F.fact 127 (f := .noat "Place" "piece"))⟩
  · exact ⟨c_Frame F, He.noat_ok (F.fact 128 (f := .noat "Frame" "piece"))⟩
def cs_count : List Str := ["Place"]
theorem f_count (F : Fx K w mg) : ∀ C ∈ cs_count, FldOk K C "count" := by
  intro C hC
  simp only [cs_count, List.mem_cons, List.not_mem_nil, or_false] at hC
  subst hC
  exact ⟨c_Place F, He.noat_ok (F.fact 129 (f := .noat "Place" "count"))⟩
def cs_names : List Str := ["Place", "Scope"]
theorem f_names (F : Fx K w mg) : ∀ C ∈ cs_names, FldOk K C "names" := by
  intro C hC
  simp only [cs_names, List.mem_cons, List.not_mem_nil, or_false] at hC
  rcases hC with rfl | rfl
  · exact ⟨c_Place F, He.noat_ok (F.fact 130 (f := .noat "Place" "names"))⟩
  · exact ⟨c_Scope F, He.noat_ok (F.fact 131 (f := .noat "Scope" "names"))⟩
def cs_of : List Str := []
theorem f_of (F : Fx K w mg) : ∀ C ∈ cs_of, FldOk K C "of" := fun C hC => nomatch hC
def cs_entry : List Str := ["Scope"]
theorem f_entry (F : Fx K w mg) : ∀ C ∈ cs_entry, FldOk K C "entry" := by
  intro C hC
  simp only [cs_entry, List.mem_cons, List.not_mem_nil, or_false] at hC
  subst hC
  exact ⟨c_Scope F, He.noat_ok (F.fact 132 (f := .noat "Scope" "entry"))⟩
def cs_scope : List Str := ["Frame"]
theorem f_scope (F : Fx K w mg) : ∀ C ∈ cs_scope, FldOk K C "scope" := by
  intro C hC
  simp only [cs_scope, List.mem_cons, List.not_mem_nil, or_false] at hC
  subst hC
  exact ⟨c_Frame F, He.noat_ok (F.fact 133 (f := .noat "Frame" "scope"))⟩
def cs_row : List Str := ["Frame"]
theorem f_row (F : Fx K w mg) : ∀ C ∈ cs_row, FldOk K C "row" := by
  intro C hC
  simp only [cs_row, List.mem_cons, List.not_mem_nil, or_false] at hC
  subst hC
  exact ⟨c_Frame F, He.noat_ok (F.fact 134 (f := .noat "Frame" "row"))⟩
def cs_runtime : List Str := ["Machine", "Look", "Solution", "Counter"]
theorem f_runtime (F : Fx K w mg) : ∀ C ∈ cs_runtime, FldOk K C "runtime" := by
  intro C hC
  simp only [cs_runtime, List.mem_cons, List.not_mem_nil, or_false] at hC
  rcases hC with rfl | rfl | rfl | rfl
  · exact ⟨c_Machine F, He.noat_ok (F.fact 135 (f := .noat "Machine" "runtime"))⟩
  · exact ⟨c_Look F, He.noat_ok (F.fact 136 (f := .noat "Look" "runtime"))⟩
  · exact ⟨c_Solution F, He.noat_ok (F.fact 137 (f := .noat "Solution" "runtime"))⟩
  · exact ⟨c_Counter F, He.noat_ok (F.fact 138 (f := .noat "Counter" "runtime"))⟩
def cs_most : List Str := ["Machine"]
theorem f_most (F : Fx K w mg) : ∀ C ∈ cs_most, FldOk K C "most" := by
  intro C hC
  simp only [cs_most, List.mem_cons, List.not_mem_nil, or_false] at hC
  subst hC
  exact ⟨c_Machine F, He.noat_ok (F.fact 139 (f := .noat "Machine" "most"))⟩
def cs_follower : List Str := ["Machine"]
theorem f_follower (F : Fx K w mg) : ∀ C ∈ cs_follower, FldOk K C "follower" := by
  intro C hC
  simp only [cs_follower, List.mem_cons, List.not_mem_nil, or_false] at hC
  subst hC
  exact ⟨c_Machine F, He.noat_ok (F.fact 140 (f := .noat "Machine" "follower"))⟩
def cs_spent : List Str := ["Machine"]
theorem f_spent (F : Fx K w mg) : ∀ C ∈ cs_spent, FldOk K C "spent" := by
  intro C hC
  simp only [cs_spent, List.mem_cons, List.not_mem_nil, or_false] at hC
  subst hC
  exact ⟨c_Machine F, He.noat_ok (F.fact 141 (f := .noat "Machine" "spent"))⟩
def cs_pending : List Str := ["Machine"]
theorem f_pending (F : Fx K w mg) : ∀ C ∈ cs_pending, FldOk K C "pending" := by
  intro C hC
  simp only [cs_pending, List.mem_cons, List.not_mem_nil, or_false] at hC
  subst hC
  exact ⟨c_Machine F, He.noat_ok (F.fact 142 (f := .noat "Machine" "pending"))⟩
def cs_frames : List Str := ["Machine"]
theorem f_frames (F : Fx K w mg) : ∀ C ∈ cs_frames, FldOk K C "frames" := by
  intro C hC
  simp only [cs_frames, List.mem_cons, List.not_mem_nil, or_false] at hC
  subst hC
  exact ⟨c_Machine F, He.noat_ok (F.fact 143 (f := .noat "Machine" "frames"))⟩
def cs_value : List Str := ["Machine"]
theorem f_value (F : Fx K w mg) : ∀ C ∈ cs_value, FldOk K C "value" := by
  intro C hC
  simp only [cs_value, List.mem_cons, List.not_mem_nil, or_false] at hC
  subst hC
  exact ⟨c_Machine F, He.noat_ok (F.fact 144 (f := .noat "Machine" "value"))⟩
def cs_error : List Str := ["Machine"]
theorem f_error (F : Fx K w mg) : ∀ C ∈ cs_error, FldOk K C "error" := by
  intro C hC
  simp only [cs_error, List.mem_cons, List.not_mem_nil, or_false] at hC
  subst hC
  exact ⟨c_Machine F, He.noat_ok (F.fact 145 (f := .noat "Machine" "error"))⟩
def cs_has_ended : List Str := ["Machine"]
theorem f_has_ended (F : Fx K w mg) : ∀ C ∈ cs_has_ended, FldOk K C "has_ended" := by
  intro C hC
  simp only [cs_has_ended, List.mem_cons, List.not_mem_nil, or_false] at hC
  subst hC
  exact ⟨c_Machine F, He.noat_ok (F.fact 146 (f := .noat "Machine" "has_ended"))⟩
theorem mt_Runtime_newest (F : Fx K w mg) : Meth K (He.ga K "Runtime") "newest" (He.ma K (He.ga K "Runtime") "newest") := He.meth_ok (F.fact 147 (f := .meth "Runtime" "newest"))
theorem mt_Runtime_table (F : Fx K w mg) : Meth K (He.ga K "Runtime") "table" (He.ma K (He.ga K "Runtime") "table") := He.meth_ok (F.fact 148 (f := .meth "Runtime" "table"))
theorem mt_Runtime_add_world (F : Fx K w mg) : Meth K (He.ga K "Runtime") "add_world" (He.ma K (He.ga K "Runtime") "add_world") := He.meth_ok (F.fact 149 (f := .meth "Runtime" "add_world"))
theorem mt_Follower_entered (F : Fx K w mg) : Meth K (He.ga K "Follower") "entered" (He.ma K (He.ga K "Follower") "entered") := He.meth_ok (F.fact 150 (f := .meth "Follower" "entered"))
theorem mt_Frame_next_at (F : Fx K w mg) : Meth K (He.ga K "Frame") "next_at" (He.ma K (He.ga K "Frame") "next_at") := He.meth_ok (F.fact 151 (f := .meth "Frame" "next_at"))
theorem mt_Frame_scope_at (F : Fx K w mg) : Meth K (He.ga K "Frame") "scope_at" (He.ma K (He.ga K "Frame") "scope_at") := He.meth_ok (F.fact 152 (f := .meth "Frame" "scope_at"))
theorem mt_Machine_leaf (F : Fx K w mg) : Meth K (He.ga K "Machine") "leaf" (He.ma K (He.ga K "Machine") "leaf") := He.meth_ok (F.fact 153 (f := .meth "Machine" "leaf"))
theorem mt_Machine_hand_up (F : Fx K w mg) : Meth K (He.ga K "Machine") "hand_up" (He.ma K (He.ga K "Machine") "hand_up") := He.meth_ok (F.fact 154 (f := .meth "Machine" "hand_up"))
theorem mt_Machine_made_of (F : Fx K w mg) : Meth K (He.ga K "Machine") "made_of" (He.ma K (He.ga K "Machine") "made_of") := He.meth_ok (F.fact 155 (f := .meth "Machine" "made_of"))
theorem mt_Machine_enter (F : Fx K w mg) : Meth K (He.ga K "Machine") "enter" (He.ma K (He.ga K "Machine") "enter") := He.meth_ok (F.fact 156 (f := .meth "Machine" "enter"))
theorem mt_Machine_go_on (F : Fx K w mg) : Meth K (He.ga K "Machine") "go_on" (He.ma K (He.ga K "Machine") "go_on") := He.meth_ok (F.fact 157 (f := .meth "Machine" "go_on"))
theorem mt_Machine_step (F : Fx K w mg) : Meth K (He.ga K "Machine") "step" (He.ma K (He.ga K "Machine") "step") := He.meth_ok (F.fact 158 (f := .meth "Machine" "step"))
theorem mt_Machine_begin (F : Fx K w mg) : Meth K (He.ga K "Machine") "begin" (He.ma K (He.ga K "Machine") "begin") := He.meth_ok (F.fact 159 (f := .meth "Machine" "begin"))
theorem mt_Machine_go (F : Fx K w mg) : Meth K (He.ga K "Machine") "go" (He.ma K (He.ga K "Machine") "go") := He.meth_ok (F.fact 160 (f := .meth "Machine" "go"))
theorem mt_Machine_ending (F : Fx K w mg) : Meth K (He.ga K "Machine") "ending" (He.ma K (He.ga K "Machine") "ending") := He.meth_ok (F.fact 161 (f := .meth "Machine" "ending"))
theorem mk_Kind (F : Fx K w mg) : Mk K (He.ga K "Kind") (He.ma K (He.ga K "Kind") "__init__") := He.mkr_ok (F.fact 162 (f := .mkr "Kind"))
theorem mk_Runtime (F : Fx K w mg) : Mk K (He.ga K "Runtime") (He.ma K (He.ga K "Runtime") "__init__") := He.mkr_ok (F.fact 163 (f := .mkr "Runtime"))
theorem mk_Place (F : Fx K w mg) : Mk K (He.ga K "Place") (He.ma K (He.ga K "Place") "__init__") := He.mkr_ok (F.fact 164 (f := .mkr "Place"))
theorem mk_Scope (F : Fx K w mg) : Mk K (He.ga K "Scope") (He.ma K (He.ga K "Scope") "__init__") := He.mkr_ok (F.fact 165 (f := .mkr "Scope"))
theorem mk_Frame (F : Fx K w mg) : Mk K (He.ga K "Frame") (He.ma K (He.ga K "Frame") "__init__") := He.mkr_ok (F.fact 166 (f := .mkr "Frame"))
theorem mk_Machine (F : Fx K w mg) : Mk K (He.ga K "Machine") (He.ma K (He.ga K "Machine") "__init__") := He.mkr_ok (F.fact 167 (f := .mkr "Machine"))
theorem mb_Follower (F : Fx K w mg) : MkB K "Follower" := mkbB_ok (F.more 14)
theorem Fx.isi (F : Fx K w mg) : tabI.Ok K := isiB_ok (fun q hq => by
  simp only [tabI, List.mem_cons, List.not_mem_nil, or_false] at hq
  subst hq
  exact c_Runtime F) (F.more 0)
theorem Fx.tab_LENGTHS_bodies (F : Fx K w mg) : KTab K w "LENGTHS_bodies" tab_LENGTHS_bodies := by
  obtain ⟨h0, _, _, X, G, c⟩ := F.ex
  refine ktab_of ?_ (F.more 1)
  have e : ts.map (fun t => He.dicW K (t.1 K)) = ts.map fun t => some (He.keysIn w.params t.2) := congrArg (fun z : He.AlT => z.2) c.t
  have e2 := congrArg (fun l : List (Option (List (Option (Str × Int)))) => l[0]?) e
  exact Option.some.inj e2
theorem Fx.tab_WITHIN (F : Fx K w mg) : KTab K w "WITHIN" tab_WITHIN := by
  obtain ⟨h0, _, _, X, G, c⟩ := F.ex
  refine ktab_of ?_ (F.more 2)
  have e : ts.map (fun t => He.dicW K (t.1 K)) = ts.map fun t => some (He.keysIn w.params t.2) := congrArg (fun z : He.AlT => z.2) c.t
  have e2 := congrArg (fun l : List (Option (List (Option (Str × Int)))) => l[1]?) e
  exact Option.some.inj e2
theorem Fx.tab_PERFORMED (F : Fx K w mg) : KTab K w "PERFORMED" tab_PERFORMED := by
  obtain ⟨h0, _, _, X, G, c⟩ := F.ex
  refine ktab_of ?_ (F.more 3)
  have e : ts.map (fun t => He.dicW K (t.1 K)) = ts.map fun t => some (He.keysIn w.params t.2) := congrArg (fun z : He.AlT => z.2) c.t
  have e2 := congrArg (fun l : List (Option (List (Option (Str × Int)))) => l[2]?) e
  exact Option.some.inj e2
theorem k_LETTERS (F : Fx K w mg) : ∃ u, mg "LETTERS" = some u ∧ dvB K (.str "abcdefghijklmnopqrstuvwxyz") u = true := F.ld 4
theorem k_MOST_FIELDS (F : Fx K w mg) : ∃ u, mg "MOST_FIELDS" = some u ∧ dvB K (.int 3) u = true := F.ld 5
theorem k_MOST_PARTS (F : Fx K w mg) : ∃ u, mg "MOST_PARTS" = some u ∧ dvB K (.int 24) u = true := F.ld 6
theorem k_GREATEST (F : Fx K w mg) : ∃ u, mg "GREATEST" = some u ∧ dvB K (.int 1000000000) u = true := F.ld 7
theorem k_CALLS_bodies (F : Fx K w mg) : ∃ u, mg "CALLS_bodies" = some u ∧ dvB K (.tup [.str "call", .str "newest"]) u = true := F.ld 8
theorem k_LEAVES (F : Fx K w mg) : ∃ u, mg "LEAVES" = some u ∧ dvB K (.tup [.str "int", .str "arg", .str "name", .str "define"]) u = true := F.ld 9
theorem k_PAIRS (F : Fx K w mg) : ∃ u, mg "PAIRS" = some u ∧ dvB K (.tup [.str "add", .str "less"]) u = true := F.ld 10
theorem k_CALLS_machine (F : Fx K w mg) : ∃ u, mg "CALLS_machine" = some u ∧ dvB K (.tup [.str "call", .str "newest"]) u = true := F.ld 11
theorem k_MOST_VALUES (F : Fx K w mg) : ∃ u, mg "MOST_VALUES" = some u ∧ dvB K (.int 2) u = true := F.ld 12
theorem k_MOST_STEPS (F : Fx K w mg) : ∃ u, mg "MOST_STEPS" = some u ∧ dvB K (.int 100000) u = true := F.ld 13
theorem we_ok (F : Fx K w mg) : WeOk K "WorldError" := weB_ok (F.more 15)
theorem x_NoStep (F : Fx K w mg) : ExA P w K mg base "NoStep" "at" 1 := by
  obtain ⟨fd, F0⟩ := F.def_ 79 (d := dd_xNoStep)
  have S : FnScope ["self", "at"] ["self", "at"] (defScope s_xNoStep) := ⟨rfl, rfl, rfl, by decide +kernel, rfl, by decide +kernel, by decide +kernel⟩
  obtain ⟨i1, i2⟩ := iniB_ok (C := "NoStep") (F.more 25)
  refine exA_of (t := "not a step") F0 S rfl rfl (FunD.bindsN F0 fun _ _ _ _ _ _ us hl => match us, hl with | [_, _], _ => rfl) (oexB_ok (F.more 24)) i1 i2 (of_decide_eq_true (F.more 26)) fun cdv A outer s H E => ?_
  exact pss_cons (ps_expr (pe_weinit rfl (g_WorldError F) (we_ok F) (pa_cons (pe_var rfl (.inl rfl)) (pa_cons pe_str pa_nil)))) (pss_one (ps_ost (pe_var rfl (.inl rfl)) (pe_var rfl (.inl rfl))))
theorem x_NoFunction (F : Fx K w mg) : ExA P w K mg base "NoFunction" "function" 1 := by
  obtain ⟨fd, F0⟩ := F.def_ 80 (d := dd_xNoFunction)
  have S : FnScope ["self", "function"] ["self", "function"] (defScope s_xNoFunction) := ⟨rfl, rfl, rfl, by decide +kernel, rfl, by decide +kernel, by decide +kernel⟩
  obtain ⟨i1, i2⟩ := iniB_ok (C := "NoFunction") (F.more 28)
  refine exA_of (t := "not a name of a function") F0 S rfl rfl (FunD.bindsN F0 fun _ _ _ _ _ _ us hl => match us, hl with | [_, _], _ => rfl) (oexB_ok (F.more 27)) i1 i2 (of_decide_eq_true (F.more 29)) fun cdv A outer s H E => ?_
  exact pss_cons (ps_expr (pe_weinit rfl (g_WorldError F) (we_ok F) (pa_cons (pe_var rfl (.inl rfl)) (pa_cons pe_str pa_nil)))) (pss_one (ps_ost (pe_var rfl (.inl rfl)) (pe_var rfl (.inl rfl))))
theorem x_NoClass (F : Fx K w mg) : ExA P w K mg base "NoClass" "name" 1 := by
  obtain ⟨fd, F0⟩ := F.def_ 81 (d := dd_xNoClass)
  have S : FnScope ["self", "name"] ["self", "name"] (defScope s_xNoClass) := ⟨rfl, rfl, rfl, by decide +kernel, rfl, by decide +kernel, by decide +kernel⟩
  obtain ⟨i1, i2⟩ := iniB_ok (C := "NoClass") (F.more 31)
  refine exA_of (t := "not a class, or not a name for one") F0 S rfl rfl (FunD.bindsN F0 fun _ _ _ _ _ _ us hl => match us, hl with | [_, _], _ => rfl) (oexB_ok (F.more 30)) i1 i2 (of_decide_eq_true (F.more 32)) fun cdv A outer s H E => ?_
  exact pss_cons (ps_expr (pe_weinit rfl (g_WorldError F) (we_ok F) (pa_cons (pe_var rfl (.inl rfl)) (pa_cons pe_str pa_nil)))) (pss_one (ps_ost (pe_var rfl (.inl rfl)) (pe_var rfl (.inl rfl))))
theorem x_NoTask (F : Fx K w mg) : ExA P w K mg base "NoTask" "task" 1 := by
  obtain ⟨fd, F0⟩ := F.def_ 82 (d := dd_xNoTask)
  have S : FnScope ["self", "task"] ["self", "task"] (defScope s_xNoTask) := ⟨rfl, rfl, rfl, by decide +kernel, rfl, by decide +kernel, by decide +kernel⟩
  obtain ⟨i1, i2⟩ := iniB_ok (C := "NoTask") (F.more 34)
  refine exA_of (t := "not the number of a task") F0 S rfl rfl (FunD.bindsN F0 fun _ _ _ _ _ _ us hl => match us, hl with | [_, _], _ => rfl) (oexB_ok (F.more 33)) i1 i2 (of_decide_eq_true (F.more 35)) fun cdv A outer s H E => ?_
  exact pss_cons (ps_expr (pe_weinit rfl (g_WorldError F) (we_ok F) (pa_cons (pe_var rfl (.inl rfl)) (pa_cons pe_str pa_nil)))) (pss_one (ps_ost (pe_var rfl (.inl rfl)) (pe_var rfl (.inl rfl))))
theorem x_NoChange (F : Fx K w mg) : ExA P w K mg base "NoChange" "at" 1 := by
  obtain ⟨fd, F0⟩ := F.def_ 83 (d := dd_xNoChange)
  have S : FnScope ["self", "at"] ["self", "at"] (defScope s_xNoChange) := ⟨rfl, rfl, rfl, by decide +kernel, rfl, by decide +kernel, by decide +kernel⟩
  obtain ⟨i1, i2⟩ := iniB_ok (C := "NoChange") (F.more 37)
  refine exA_of (t := "not a change") F0 S rfl rfl (FunD.bindsN F0 fun _ _ _ _ _ _ us hl => match us, hl with | [_, _], _ => rfl) (oexB_ok (F.more 36)) i1 i2 (of_decide_eq_true (F.more 38)) fun cdv A outer s H E => ?_
  exact pss_cons (ps_expr (pe_weinit rfl (g_WorldError F) (we_ok F) (pa_cons (pe_var rfl (.inl rfl)) (pa_cons pe_str pa_nil)))) (pss_one (ps_ost (pe_var rfl (.inl rfl)) (pe_var rfl (.inl rfl))))
theorem x_NoSteps (F : Fx K w mg) : ExA P w K mg base "NoSteps" "steps" 1 := by
  obtain ⟨fd, F0⟩ := F.def_ 84 (d := dd_xNoSteps)
  have S : FnScope ["self", "steps"] ["self", "steps"] (defScope s_xNoSteps) := ⟨rfl, rfl, rfl, by decide +kernel, rfl, by decide +kernel, by decide +kernel⟩
  obtain ⟨i1, i2⟩ := iniB_ok (C := "NoSteps") (F.more 40)
  refine exA_of (t := "not a number of steps") F0 S rfl rfl (FunD.bindsN F0 fun _ _ _ _ _ _ us hl => match us, hl with | [_, _], _ => rfl) (oexB_ok (F.more 39)) i1 i2 (of_decide_eq_true (F.more 41)) fun cdv A outer s H E => ?_
  exact pss_cons (ps_expr (pe_weinit rfl (g_WorldError F) (we_ok F) (pa_cons (pe_var rfl (.inl rfl)) (pa_cons pe_str pa_nil)))) (pss_one (ps_ost (pe_var rfl (.inl rfl)) (pe_var rfl (.inl rfl))))
theorem x_NoValues (F : Fx K w mg) : ExA P w K mg base "NoValues" "given" 1 := by
  obtain ⟨fd, F0⟩ := F.def_ 85 (d := dd_xNoValues)
  have S : FnScope ["self", "given"] ["self", "given"] (defScope s_xNoValues) := ⟨rfl, rfl, rfl, by decide +kernel, rfl, by decide +kernel, by decide +kernel⟩
  obtain ⟨i1, i2⟩ := iniB_ok (C := "NoValues") (F.more 43)
  refine exA_of (t := "not a tuple of one or two values") F0 S rfl rfl (FunD.bindsN F0 fun _ _ _ _ _ _ us hl => match us, hl with | [_, _], _ => rfl) (oexB_ok (F.more 42)) i1 i2 (of_decide_eq_true (F.more 44)) fun cdv A outer s H E => ?_
  exact pss_cons (ps_expr (pe_weinit rfl (g_WorldError F) (we_ok F) (pa_cons (pe_var rfl (.inl rfl)) (pa_cons pe_str pa_nil)))) (pss_one (ps_ost (pe_var rfl (.inl rfl)) (pe_var rfl (.inl rfl))))
theorem x_NoSignature (F : Fx K w mg) : ExA P w K mg base "NoSignature" "signature" 1 := by
  obtain ⟨fd, F0⟩ := F.def_ 86 (d := dd_xNoSignature)
  have S : FnScope ["self", "signature"] ["self", "signature"] (defScope s_xNoSignature) := ⟨rfl, rfl, rfl, by decide +kernel, rfl, by decide +kernel, by decide +kernel⟩
  obtain ⟨i1, i2⟩ := iniB_ok (C := "NoSignature") (F.more 46)
  refine exA_of (t := "not a tuple of classes") F0 S rfl rfl (FunD.bindsN F0 fun _ _ _ _ _ _ us hl => match us, hl with | [_, _], _ => rfl) (oexB_ok (F.more 45)) i1 i2 (of_decide_eq_true (F.more 47)) fun cdv A outer s H E => ?_
  exact pss_cons (ps_expr (pe_weinit rfl (g_WorldError F) (we_ok F) (pa_cons (pe_var rfl (.inl rfl)) (pa_cons pe_str pa_nil)))) (pss_one (ps_ost (pe_var rfl (.inl rfl)) (pe_var rfl (.inl rfl))))
theorem kwT (F : Fx K w mg) (R : List Addr) (H : Hp) : DV K R H (.tup []) (.ref (kwAt K "add_class" "fields")) := by
  obtain ⟨v, r, k⟩ := dvB_ok (F.more 48)
  have q := k R H
  obtain ⟨a, xs, e, _⟩ := q.tupv
  subst e
  have e2 : a = kwAt K "add_class" "fields" := (Value.ref.inj r).symm
  rw [← e2]
  exact q
theorem F_change_error (F : Fx K w mg) : ∃ fd, FunD K dd_change_error.name dd_change_error.qual dd_change_error.params dd_change_error.body dd_change_error.scope (dd_change_error.dvs K) (dd_change_error.kws K) (He.ga K "change_error") fd := F.def_ 87 (d := dd_change_error)
theorem F_call_error (F : Fx K w mg) : ∃ fd, FunD K dd_call_error.name dd_call_error.qual dd_call_error.params dd_call_error.body dd_call_error.scope (dd_call_error.dvs K) (dd_call_error.kws K) (He.ga K "call_error") fd := F.def_ 88 (d := dd_call_error)
theorem F__law_said (F : Fx K w mg) : ∃ fd, FunD K dd__law_said.name dd__law_said.qual dd__law_said.params dd__law_said.body dd__law_said.scope (dd__law_said.dvs K) (dd__law_said.kws K) (He.ga K "_law_said") fd := F.def_ 89 (d := dd__law_said)
theorem F_law (F : Fx K w mg) : ∃ fd, FunD K dd_law.name dd_law.qual dd_law.params dd_law.body dd_law.scope (dd_law.dvs K) (dd_law.kws K) (He.ga K "law") fd := F.def_ 90 (d := dd_law)
theorem h_kitT (F : Fx K w mg) : kitT K = true := F.more 16
theorem h_excT (F : Fx K w mg) : excT K = true := F.more 17
theorem h_hdT (F : Fx K w mg) : hdT K = true := F.more 18
theorem h_exmStep (F : Fx K w mg) : exmT K "NoStep" = true := F.more 19
theorem h_exmTask (F : Fx K w mg) : exmT K "NoTask" = true := F.more 20
theorem h_xfStep (F : Fx K w mg) : xfB K (He.ga K "NoStep") = true := F.more 21
theorem h_lamL (F : Fx K w mg) : lamB K "law" = true := F.more 22
theorem h_oth (F : Fx K w mg) : othT K = true := F.more 23
theorem h_noAt (F : Fx K w mg) : eqOV (PySem.W.findIn K (.ref (He.ga K "NoStep")) "at") (some none) = true := F.more 26
end
end SG
set_option Elab.async false
set_option linter.all false
set_option maxRecDepth 100000
set_option maxHeartbeats 0
namespace SG
open PySem PySem.Spec PyProof.Rows L2 SL L2H
section
variable {P : Program} {K : PySem.W.Frag} {w : World} {mg : Str → Option Value} {base : Heap}
theorem kit_at (F : Fx K w mg) {C X : Str} (hC : C ∈ errs) (hX : X ∈ chT ++ caT) : PySem.W.kitOne K (.ref (He.ga K C)) (.ref (He.ga K X)) = some (decide (C = X)) :=
  of_decide_eq_true (List.all_eq_true.mp (List.all_eq_true.mp (h_kitT F) C hC) X hX)
theorem exc_at (F : Fx K w mg) {C : Str} (hC : C ∈ errs) : ExcC K (He.ga K C) := excCB_ok (List.all_eq_true.mp (h_excT F) C hC)
/-- the name of an error's class: by the first def, by the second one -/
def chName (C : Str) : V := if chT.contains C then .str C else .non
def spCh (K : PySem.W.Frag) (nm : Str → V) (ok : List Str) : Addr × Obj → Sp := fun p vs H Q _ => ∃ C dd fs, C ∈ errs ∧ C ∈ ok ∧ vs = [.ref p.1] ∧ Zc (.ref (He.ga K C)) (some dd) p.2 ∧ (∃ vs, p.2.data = .fields vs) ∧ H dd = some (.xd fs) ∧ Q (nm C) H
/-- one test of the chain -/
theorem chain1 (F : Fx K w mg) {p : Addr × Obj} {C x : Str} {dd : Addr} {fs : List (Str × V)} {σ : L2.St} {H : Hp} {Q : Bool → Hp → Prop} (hC : C ∈ errs) (hx : x ∈ chT ++ caT) (a : EAt K p (He.ga K C) dd fs σ H) (q : Q (decide (C = x)) H) : tIsd K p x σ H Q :=
  ⟨_, dd, fs, _, a, kit_at F hC hx, q⟩
/-- a chain of tests over the names xs, then the rest -/
def tCh (K : PySem.W.Frag) (p : Addr × Obj) : List Str → TS → TS
  | [], t => t
  | x :: r, t => tSeq (tIfS (tIsd K p x) (tRet (tC (.str x))) tNext) (tCh K p r t)
theorem tCh_run (F : Fx K w mg) {p : Addr × Obj} {C : Str} {dd : Addr} {fs : List (Str × V)} {σ : L2.St} {H : Hp} {t : TS} (hC : C ∈ errs) (a : EAt K p (He.ga K C) dd fs σ H) : ∀ (xs : List Str) (D : Ends), (∀ x ∈ xs, x ∈ chT ++ caT) → (if C ∈ xs then D.rt (.str C) H else t D σ H) → tCh K p xs t D σ H
  | [], D, _, h => by simpa [tCh] using h
  | x :: r, D, hx, h => by
    show tIsd K p x σ H fun b H1 => if b = true then D.rt (.str x) H1 else tCh K p r t D σ H1
    refine chain1 F hC (hx x List.mem_cons_self) a ?_
    by_cases e : C = x
    · subst e
      rw [if_pos (decide_eq_true rfl)]
      rw [if_pos List.mem_cons_self] at h
      exact h
    · rw [if_neg (by simpa using e)]
      refine tCh_run F hC a r D (fun y hy => hx y (List.mem_cons_of_mem _ hy)) ?_
      by_cases m : C ∈ r
      · rw [if_pos m]
        rw [if_pos (List.mem_cons_of_mem _ m)] at h
        exact h
      · rw [if_neg m]
        rw [if_neg (fun z => (List.mem_cons.mp z).elim e m)] at h
        exact h
theorem sc_change : FnScope ["e"] ["e"] (defScope s_change_error) := ⟨rfl, rfl, rfl, by decide +kernel, rfl, by decide +kernel, by decide +kernel⟩
theorem sc_callerr : FnScope ["e"] ["e"] (defScope s_call_error) := ⟨rfl, rfl, rfl, by decide +kernel, rfl, by decide +kernel, by decide +kernel⟩
theorem p_change (F : Fx K w mg) : ∃ fd, FunD K "change_error" "change_error" (defArgs s_change_error) (defBody s_change_error) (defScope s_change_error) [] [] (He.ga K "change_error") fd ∧ FnP P w K mg base 1 (He.ga K "change_error") fd ["e"] (spCh K chName errs) := by
  obtain ⟨fd, F1⟩ := F_change_error F
  have F0 : FunD K "change_error" "change_error" (defArgs s_change_error) (defBody s_change_error) (defScope s_change_error) [] [] (He.ga K "change_error") fd := F1
  refine ⟨fd, F0, fnP_of F0 sc_change (fun p vs H Q E ⟨_, _, _, _, _, e, _⟩ => by rw [e]; rfl) fun cdv A outer s H vs Q E p hr ⟨C, dd, fs, hC, _, e, hz, hf, hd, q⟩ => ?_⟩
  subst e
  have hp : p ∈ (cxH (L2.CX P w) P w K mg base ["e"] "change_error" (defScope s_change_error) (He.ga K "change_error") cdv A outer s H E p).pn := List.mem_cons_self
  have T : ∀ {x : Str} {p1 p2 p3 p4 : Pos}, mg x = some (.ref (He.ga K x)) → (defScope s_change_error).names.lookup x = some .globalImplicit → (x == ("__debug__" : Str)) = false →
      PT (cxH (L2.CX P w) P w K mg base ["e"] "change_error" (defScope s_change_error) (He.ga K "change_error") cdv A outer s H E p) (.Call (.Name "isinstance" p1) [.Name "e" p2, .Name x p3] [] p4) (tIsd K p x) := fun hm hg hdb => pt_isd hp rfl (.inl rfl) rfl (n_isinstance F) bt_isinstance hg hm (by rfl) (by decide) (by decide) hdb
  refine ⟨_, pss_cons (ps_if (T (g_NoClass F) rfl rfl) (pss_one (ps_ret pe_str)) pss_nil) (pss_cons (ps_if (T (g_Taken F) rfl rfl) (pss_one (ps_ret pe_str)) pss_nil) (pss_cons (ps_if (T (g_NoFunction F) rfl rfl) (pss_one (ps_ret pe_str)) pss_nil)
    (pss_cons (ps_if (T (g_NoSignature F) rfl rfl) (pss_one (ps_ret pe_str)) pss_nil) (pss_cons (ps_if (T (g_NoBody F) rfl rfl) (pss_one (ps_ret pe_str)) pss_nil) (pss_cons (ps_if (T (g_NotThere F) rfl rfl) (pss_one (ps_ret pe_str)) pss_nil) (pss_cons (ps_if (T (g_NoChange F) rfl rfl) (pss_one (ps_ret pe_str)) pss_nil)
    (pss_one (ps_ret (pe_ifExp (T (g_NoWorld F) rfl rfl) pe_str pe_non))))))))), ?_⟩
  have a : EAt K p (He.ga K C) dd fs (L2.start ["e"] [V.ref p.1]) H := ⟨rfl, hz, hf, hd, exc_at F hC⟩
  refine tCh_run F hC a ["NoClass", "Taken", "NoFunction", "NoSignature", "NoBody", "NotThere", "NoChange"] _ (by decide) ?_
  by_cases m : C ∈ (["NoClass", "Taken", "NoFunction", "NoSignature", "NoBody", "NotThere", "NoChange"] : List Str)
  · rw [if_pos m]
    have e : chName C = .str C := by
      unfold chName
      have z : C ∈ chT := List.mem_append_left (["NoWorld"] : List Str) m
      rw [if_pos (List.contains_iff_mem.mpr z)]
    rw [e] at q
    exact q
  · rw [if_neg m]
    refine chain1 F hC (by decide) a ?_
    by_cases e : C = "NoWorld"
    · subst e
      rw [if_pos (decide_eq_true rfl)]
      exact q
    · rw [if_neg (by simpa using e)]
      have e2 : chName C = .non := by
        unfold chName
        rw [if_neg fun z => ?_]
        have z := List.contains_iff_mem.mp z
        rcases List.mem_append.mp (show C ∈ (["NoClass", "Taken", "NoFunction", "NoSignature", "NoBody", "NotThere", "NoChange"] : List Str) ++ (["NoWorld"] : List Str) from z) with z | z
        · exact m z
        · exact e (List.mem_singleton.mp z)
      rw [e2] at q
      exact q
theorem p_call (F : Fx K w mg) : ∃ fd, FunD K "call_error" "call_error" (defArgs s_call_error) (defBody s_call_error) (defScope s_call_error) [] [] (He.ga K "call_error") fd ∧ FnP P w K mg base 1 (He.ga K "call_error") fd ["e"] (spCh K .str caT) := by
  obtain ⟨fd, F1⟩ := F_call_error F
  have F0 : FunD K "call_error" "call_error" (defArgs s_call_error) (defBody s_call_error) (defScope s_call_error) [] [] (He.ga K "call_error") fd := F1
  refine ⟨fd, F0, fnP_of F0 sc_callerr (fun p vs H Q E ⟨_, _, _, _, _, e, _⟩ => by rw [e]; rfl) fun cdv A outer s H vs Q E p hr ⟨C, dd, fs, hC, hO, e, hz, hf, hd, q⟩ => ?_⟩
  subst e
  have hp : p ∈ (cxH (L2.CX P w) P w K mg base ["e"] "call_error" (defScope s_call_error) (He.ga K "call_error") cdv A outer s H E p).pn := List.mem_cons_self
  have T : ∀ {x : Str} {p1 p2 p3 p4 : Pos}, mg x = some (.ref (He.ga K x)) → (defScope s_call_error).names.lookup x = some .globalImplicit → (x == ("__debug__" : Str)) = false →
      PT (cxH (L2.CX P w) P w K mg base ["e"] "call_error" (defScope s_call_error) (He.ga K "call_error") cdv A outer s H E p) (.Call (.Name "isinstance" p1) [.Name "e" p2, .Name x p3] [] p4) (tIsd K p x) := fun hm hg hdb => pt_isd hp rfl (.inl rfl) rfl (n_isinstance F) bt_isinstance hg hm (by rfl) (by decide) (by decide) hdb
  refine ⟨_, pss_cons (ps_if (T (g_NoValues F) rfl rfl) (pss_one (ps_ret pe_str)) pss_nil) (pss_cons (ps_if (T (g_NoSteps F) rfl rfl) (pss_one (ps_ret pe_str)) pss_nil) (pss_cons (ps_if (T (g_NoMethod F) rfl rfl) (pss_one (ps_ret pe_str)) pss_nil)
    (pss_cons (ps_if (T (g_Ambiguous F) rfl rfl) (pss_one (ps_ret pe_str)) pss_nil) (pss_cons (ps_if (T (g_NotInt F) rfl rfl) (pss_one (ps_ret pe_str)) pss_nil) (pss_cons (ps_if (T (g_NoField F) rfl rfl) (pss_one (ps_ret pe_str)) pss_nil) (pss_cons (ps_if (T (g_NoFit F) rfl rfl) (pss_one (ps_ret pe_str)) pss_nil)
    (pss_cons (ps_if (T (g_TooDeep F) rfl rfl) (pss_one (ps_ret pe_str)) pss_nil) (pss_cons (ps_if (T (g_NoTask F) rfl rfl) (pss_one (ps_ret pe_str)) pss_nil) (pss_one (ps_ret (pe_ifExp (T (g_NotEnded F) rfl rfl) pe_str pe_str))))))))))), ?_⟩
  have a : EAt K p (He.ga K C) dd fs (L2.start ["e"] [V.ref p.1]) H := ⟨rfl, hz, hf, hd, exc_at F hC⟩
  refine tCh_run F hC a ["NoValues", "NoSteps", "NoMethod", "Ambiguous", "NotInt", "NoField", "NoFit", "TooDeep", "NoTask"] _ (by decide) ?_
  by_cases m : C ∈ (["NoValues", "NoSteps", "NoMethod", "Ambiguous", "NotInt", "NoField", "NoFit", "TooDeep", "NoTask"] : List Str)
  · rw [if_pos m]
    exact q
  · rw [if_neg m]
    refine chain1 F hC (by decide) a ?_
    rcases List.mem_append.mp (show C ∈ (["NoValues", "NoSteps", "NoMethod", "Ambiguous", "NotInt", "NoField", "NoFit", "TooDeep", "NoTask"] : List Str) ++ (["NotEnded"] : List Str) from hO) with z | z
    · exact absurd z m
    · have e := List.mem_singleton.mp z
      subst e
      rw [if_pos (decide_eq_true rfl)]
      exact q
end
end SG
set_option Elab.async false
set_option linter.all false
set_option maxRecDepth 100000
set_option maxHeartbeats 0
namespace SG
open PySem PySem.Spec PyProof.Rows L2 SL L2H
theorem takes0' {X : Cx} : L2.Takes X (fun _ _ _ _ => False) := fun u s' ⟨_, _, _, _, _, _, _, _, _, _, _, _, _, _, _, _, w⟩ => False.elim w
/-! ### performed's try -/
def sTryP (i : Nat) (m : ME) : MS := fun l S => match m l S with
  | .ok d S' => .ok (.rt d, l) S'
  | .err C fs S' => if errs.contains C && (!fs.isEmpty && decide (i < l.length)) then .ok (.rt (.tup [.str "raises", .str C]), l.set i none) S' else .bad
  | .bad => .bad
def tsPf (K : PySem.W.Frag) (i : Nat) : Addr → Value → Option Addr → TS := fun a cls d D σ H => ∃ C dd fs, C ∈ errs ∧ cls = .ref (He.ga K C) ∧ d = some dd ∧ H dd = some (.xd fs) ∧ σ[i]? = some (some (.ref a)) ∧
  ∀ p, H p = none → D.rt (.ref p) (upd H p (.tup [.str "raises", .str C]))
theorem errs_some : (errs.all fun C => (chT.contains C || caT.contains C) && (decide (C.length ≤ 1000) && decide (((C.length : Int) != 0) = true))) = true := by decide +kernel
section
variable {X : Cx} {k i : Nat} {e : Expr} {m : ME} {j k1 u : Nat} {p1 p2 p3 p4 p5 p6 p7 p8 p9 p10 p11 p12 p13 pos : Pos}
theorem ss_perf (F : Fx X.K X.w X.mg) (g : Ge X k) (hs : X.stack = X.env :: X.outer) (hf : X.env.frame = some X.env.locals) (hi : X.N[i]? = some "e") (hln : X.env.kindOf "e" = some .local) (hr : RoomH k X.A) (he : ∀ (pn : List (Addr × Obj)) (xe : Value → Shared → Prop), SE (X.tr pn xe) e m)
    (hk : 1 ≤ k := by decide) (g1 : Gl X "WorldError" := by rfl) (g2 : Gl X "change_error" := by rfl) (g3 : Gl X "call_error" := by rfl) :
    SS X (.Try [.Return (some e) p1] [.ExceptHandler (some (.Name "WorldError" p2)) (some "e") [.Return (some (.Tuple [.Constant (.str "raises") u p3, .BoolOp .Or [.Call (.Name "change_error" p4) [.Name "e" p5] [] p6, .Call (.Name "call_error" p7) [.Name "e" p8] [] p9] p10] k1 p11)) p12] p13] [] [] pos) (sTryP i m) := ⟨fun W tk => by
  refine PS.mono (ps_try_as (Wout := fun _ _ _ _ => False) (tb := fun W2 => tRet (liftE X m W2)) (ts := tsPf X.K i) hs hf g.nd hi hln ⟨g1, rfl, .inl (g_WorldError F)⟩ takes0' (fun W2 pn xe tk2 _ => pss_one (ps_ret ((he pn xe).run W2 tk2))) (fun a oe cls d pn hz hfl => ?_)) fun Dn σ H ⟨R, S, l, r, hl, h⟩ => ?_
  · obtain ⟨fd1, F1, Q1⟩ := p_change (P := X.prog) (base := X.base) F
    obtain ⟨fd2, F2, Q2⟩ := p_call (P := X.prog) (base := X.base) F
    have hp : (a, oe) ∈ (X.suite a ((a, oe) :: pn)).pn := List.mem_cons_self
    have hR : RoomH 1 (X.suite a ((a, oe) :: pn)).A := ⟨(hr.mono hk).dp, (hr.mono hk).un⟩
    have vis : Vis (X.suite a ((a, oe) :: pn)).env.scope "e" := .inl hln
    have ve : ∀ {q : Pos}, PE (X.suite a ((a, oe) :: pn)) (.Name "e" q) (tVar i) := pe_var hi vis
    refine PSs.mono (pss_one (ps_ret (pe_tup (pa_cons pe_str (pa_cons (pe_orT (pe_callP Q1 hR hp g2 (g_change_error F) F1.kp (FunD.bindsN F1 fun _ _ _ _ _ _ us hl => match us, hl with | [_], _ => rfl) (fun σ pins H s e s' I c => ?_) (pa_cons ve pa_nil))
      (pe_one (pe_callP Q2 hR hp g3 (g_call_error F) F2.kp (FunD.bindsN F2 fun _ _ _ _ _ _ us hl => match us, hl with | [_], _ => rfl) (fun σ pins H s e s' I c => ?_) (pa_cons ve pa_nil)))) pa_nil))))) fun Dn σ H ⟨C, dd, fs, hC, ec, ed, hd, hσ, q⟩ => ?_
    · obtain ⟨_, _, _, _, _, _, _, _, _, _, _, _, z⟩ := c
      exact z.elim
    · obtain ⟨_, _, _, _, _, _, _, _, _, _, _, _, z⟩ := c
      exact z.elim
    · subst ec ed
      have hE := List.all_eq_true.mp errs_some C hC
      obtain ⟨hE1, hE2⟩ := Bool.and_eq_true_iff.mp hE
      obtain ⟨hE2, hE3⟩ := Bool.and_eq_true_iff.mp hE2
      have hE2 : C.length ≤ 1000 := of_decide_eq_true hE2
      have hE3 : ((C.length : Int) != 0) = true := of_decide_eq_true hE3
      have fin : ∀ p, H p = none → Dn.rt (.ref p) (upd H p (.tup [.str "raises", .str C])) := q
      refine ⟨_, hσ, C, dd, fs, hC, hC, rfl, hz, hfl, hd, ?_⟩
      by_cases c : chT.contains C = true
      · have e1 : chName C = .str C := by unfold chName; rw [if_pos c]
        rw [e1]
        exact ⟨true, ⟨by rw [sizeLine_eq]; omega, hE3.symm⟩, ⟨by show 2 ≤ sizeLine; rw [sizeLine_eq]; omega, fin⟩⟩
      · have e1 : chName C = .non := by unfold chName; rw [if_neg c]
        rw [e1]
        refine ⟨false, rfl, ?_⟩
        rw [if_neg Bool.false_ne_true]
        have hO : C ∈ caT := by
          rcases Bool.or_eq_true_iff.mp hE1 with z | z
          · exact absurd z c
          · exact List.contains_iff_mem.mp z
        exact ⟨_, hσ, C, dd, fs, hC, hO, rfl, hz, hfl, hd, ⟨by show 2 ≤ sizeLine; rw [sizeLine_eq]; omega, fin⟩⟩
  · refine ⟨R, S, l, r, hl, ?_⟩
    unfold sTryP at h
    cases z : m l S with
    | bad => rw [z] at h; exact False.elim h
    | ok d S1 =>
      rw [z] at h
      intro R1 H1 x1 r1 v hv
      exact h R1 H1 x1 r1 σ (hl.ext r x1) v hv
    | err C fs S1 =>
      rw [z] at h
      dsimp only at h
      by_cases c : (errs.contains C && (!fs.isEmpty && decide (i < l.length))) = true
      · rw [if_pos c] at h
        obtain ⟨c1, c2⟩ := Bool.and_eq_true_iff.mp c
        obtain ⟨c2, c3⟩ := Bool.and_eq_true_iff.mp c2
        have hC := List.contains_iff_mem.mp c1
        have hil : i < σ.length := by rw [← hl.1]; exact of_decide_eq_true c3
        intro R1 H1 dx x1 r1 q
        refine ⟨true, of_decide_eq_true (List.all_eq_true.mp (h_hdT F) C hC), fun _ a ha => ?_, fun z => Bool.noConfusion z⟩
        rcases q with q | ⟨dd, fs', q1, q2, q3⟩
        · rw [q] at c2; cases c2
        · refine ⟨C, dd, fs', hC, rfl, q1, q2, by rw [List.getElem?_set_self hil], fun p hp => ?_⟩
          have hl2 : LocR X.K R1 (upd H1 p (.tup [.str "raises", .str C])) (l.set i none) (σ.set i (some (.ref a))) := by
            have hl1 := (hl.ext r x1).ext r1 (Ext.fresh (u := .tup [.str "raises", .str C]) hp)
            refine ⟨by simp [hl1.1], fun n d hd => ?_⟩
            by_cases hn : i = n
            · subst hn
              rw [List.getElem?_set] at hd
              simp only [if_true] at hd
              split at hd <;> cases hd
            · rw [List.getElem?_set_ne hn] at hd ⊢
              exact hl1.2 n d hd
          exact h R1 _ (x1.trans (Ext.fresh hp) r1.some) (r1.fresh hp) _ hl2 (.ref p) (.tup (.of upd_same) (.cons (.str _) (.cons (.str _) .nil)))
      · rw [if_neg c] at h; exact False.elim h⟩
end
/-! ### the counts, asked in an except suite -/
def m_countsP : MS := sSeq (sSet 1 (eN oDict (aCons (eFld cs_made "made" (eVar 0)) aNil))) (sSeq (sPutK (eVar 1) (eC (.str "entries")) (eN oLen (aCons (eFld cs_entries "entries" (eVar 0)) aNil))) (sRet (eVar 1)))
theorem sc_countsP : FnScope ["runtime", "found"] ["runtime"] (defScope s_counts) := ⟨rfl, rfl, rfl, by decide +kernel, rfl, by decide +kernel, by decide +kernel⟩
theorem p_counts {P : Program} {K : PySem.W.Frag} {w : World} {mg : Str → Option Value} {base : Heap} (F : Fx K w mg) : ∃ fd, FunD K "counts" "counts" (defArgs s_counts) (defBody s_counts) (defScope s_counts) [] [] (He.ga K "counts") fd ∧ FnP P w K mg base 1 (He.ga K "counts") fd ["runtime"] (spDP P w K 1 (fnM 2 m_countsP)) := by
  obtain ⟨fd, F1⟩ := F.def_ 66 (d := dd_counts)
  have F0 : FunD K "counts" "counts" (defArgs s_counts) (defBody s_counts) (defScope s_counts) [] [] (He.ga K "counts") fd := F1
  refine ⟨fd, F0, fnP_ofS F0 sc_countsP fun cdv A outer s H E p hr => ?_⟩
  have hu : (cxH (L2.CX P w) P w K mg base ["runtime", "found"] "counts" (defScope s_counts) (He.ga K "counts") cdv A outer s H E p).A.units + 64 < cLine := by
    have z := hr.un
    show (A.deeper _).units + 64 < cLine
    omega
  exact ss_cons (ss_set sc_countsP.nd rfl (.inl rfl) (se_callTy s_dict rfl (n_dict F) bt_dict (sa_cons (se_fld v (f_made F)) sa_nil)))
    (ss_cons (ss_putK (by omega) v se_str (se_callB s_len rfl (n_len F) bt_len (sa_cons (se_fld v (f_entries F)) sa_nil))) (ss_one (ss_ret v)))
/-! ### untouched's try -/
def mSuiteU : ME := eOp2 (oEqS false) (eOp2 oIxK (eCallP 1 (fnM 2 m_countsP) (aCons (eVar 0) aNil)) (eC (.str "entries"))) (eC (.int 0))
def sTryU (m : ME) : MS := fun l S => match m l S with
  | .ok d S' => .ok (.nx, l) S'
  | .err C fs S' => if C = "NoTask" then noErr (sRet mSuiteU l S') else .bad
  | .bad => .bad
section
variable {X : Cx} {k : Nat} {e : Expr} {m : ME} {u v : Nat} {n : Str} {p1 p2 p3 p4 p5 p6 p7 p8 p9 p10 p11 pos : Pos}
theorem ss_unt (F : Fx X.K X.w X.mg) (g : Ge X k) (hs : X.stack = X.env :: X.outer) (hf : X.env.frame = some X.env.locals) (hi : X.N[0]? = some n) (hr : RoomH k X.A) (he : ∀ (pn : List (Addr × Obj)) (xe : Value → Shared → Prop), SE (X.tr pn xe) e m)
    (hk : 1 ≤ k := by decide) (hsw : ∀ line, swapsWith e none line X.env = pure false := by intro _; rfl) (g1 : Gl X "NoTask" := by rfl) (g2 : Gl X "counts" := by rfl) (hv : X.env.kindOf n = some .local := by rfl) (hd : (n == ("__debug__" : Str)) = false := by rfl) (hcd : (n == ("__classdict__" : Str)) = false := by rfl) :
    SS X (.Try [.Expr e p1] [.ExceptHandler (some (.Name "NoTask" p2)) none [.Return (some (.Compare (.Subscript (.Call (.Name "counts" p3) [.Name n p4] [] p5) (.Constant (.str "entries") u p6) p7) [.Eq] [.Constant (.int 0) v p8] p9)) p10] p11] [] [] pos) (sTryU m) := ⟨fun W tk => by
  refine PS.mono (ps_try_only (Wout := fun _ _ _ _ => False) (tb := fun W2 => tDrop (liftE X m W2)) (ts := fun _ _ _ => liftS X (sRet mSuiteU) fun _ _ _ _ => False) hs hf ⟨g1, rfl, .inl (g_NoTask F)⟩ takes0' (fun W2 pn xe tk2 _ => pss_one (ps_expr ((he pn xe).run W2 tk2) (hsw _))) (fun a oe cls d pn hz hfl => ?_)) fun Dn σ H ⟨R, S, l, r, hl, h⟩ => ?_
  · obtain ⟨fd1, F1, Q1⟩ := p_counts (P := X.prog) (base := X.base) F
    have hp : (a, oe) ∈ (X.suite a ((a, oe) :: pn)).pn := List.mem_cons_self
    have hR : RoomH 1 (X.suite a ((a, oe) :: pn)).A := ⟨(hr.mono hk).dp, (hr.mono hk).un⟩
    have hu : (X.suite a ((a, oe) :: pn)).A.units + 64 < cLine := by have z := hR.un; omega
    have ve : ∀ {q : Pos}, SE (X.suite a ((a, oe) :: pn)) (.Name n q) (eVar 0) := se_var hi (.inl hv) hd hcd
    exact (ss_one (ss_ret (se_cmp (s_eqS hu) (se_ix (s_ixK hu) (se_callP (ps := ["runtime"]) Q1 hR hp g2 (g_counts F) F1.kp (FunD.bindsN F1 fun _ _ _ _ _ _ us hl => match us, hl with | [_], _ => rfl) (sa_cons ve sa_nil)) se_str) se_int))).run _ takes0'
  · refine ⟨R, S, l, r, hl, ?_⟩
    unfold sTryU at h
    cases z : m l S with
    | bad => rw [z] at h; exact False.elim h
    | ok d S1 =>
      rw [z] at h
      intro R1 H1 x1 r1 v hv
      exact h R1 H1 x1 r1 σ (hl.ext r x1)
    | err C fs S1 =>
      rw [z] at h
      dsimp only at h
      by_cases c : C = "NoTask"
      · rw [if_pos c] at h
        subst c
        intro R1 H1 dx x1 r1 q
        refine ⟨true, of_decide_eq_true (h_exmTask F), fun _ a ha => ?_, fun z => Bool.noConfusion z⟩
        exact ⟨R1, S1, l, r1, hl.ext r x1, noErr_out (Out.shift h x1 r1.some)⟩
      · rw [if_neg c] at h; exact False.elim h⟩
end
end SG
set_option Elab.async false
set_option linter.all false
set_option maxRecDepth 100000
set_option maxHeartbeats 0
namespace SG
open PySem PySem.Spec PyProof.Rows L2 SL L2H
def nFr : Nat := 146
section
variable {P : Program} {K : PySem.W.Frag} {w : World} {mg : Str → Option Value} {base : Heap}
def m_is_integer : MS := sRet (eAnd (eN (oIsi tabI) (aCons (eVar 0) (aCons (eC (.ty "int")) (aNil)))) (eNot (eN (oIsi tabI) (aCons (eVar 0) (aCons (eC (.ty "bool")) (aNil))))))
def M_is_integer : List D → Sto → Res D := fnM 1 m_is_integer
theorem sc_is_integer : FnScope ["thing"] ["thing"] (defScope s_is_integer) := ⟨rfl, rfl, rfl, by decide +kernel, rfl, by decide +kernel, by decide +kernel⟩
theorem d_is_integer (F : Fx K w mg) : FnA P w K mg base (He.ga K "is_integer") ["thing"] [] 1 M_is_integer := by
  obtain ⟨fd, F1⟩ := F.def_ 0 (d := dd_is_integer)
  have F0 : FunD K "is_integer" "is_integer" (defArgs s_is_integer) (defBody s_is_integer) (defScope s_is_integer) [] [] (He.ga K "is_integer") fd := F1
  refine fnA_of F0 sc_is_integer (FunD.bindsN F0 fun _ _ _ _ _ _ us hl => match us, hl with | [_], _ => rfl) .nil (fun _ _ => .nil) fun cdv A outer s H E hr => ?_
  have g : Ge (cxOf (L2.CX P w) P w K mg base ["thing"] "is_integer" (defScope s_is_integer) (He.ga K "is_integer") cdv A outer s H E) 0 := ⟨rfl, hr, sc_is_integer.nd⟩
  have po : PassesOwn (model P w) (A.deeper (envOfC "is_integer" (defScope s_is_integer) s.heap.objs.size (He.ga K "is_integer") cdv)) (envOfC "is_integer" (defScope s_is_integer) s.heap.objs.size (He.ga K "is_integer") cdv) (cxOf (L2.CX P w) P w K mg base ["thing"] "is_integer" (defScope s_is_integer) (He.ga K "is_integer") cdv A outer s H E).xe := PassesOwn.leaving
  exact (ss_one (ss_ret (se_and (se_callB (s_isi F.isi) rfl (n_isinstance F) bt_isinstance (sa_cons v (sa_cons (se_ty rfl (n_int F) bt_int) sa_nil))) (se_one (se_not (se_callB (s_isi F.isi) rfl (n_isinstance F) bt_isinstance (sa_cons v (sa_cons (se_ty rfl (n_bool F) bt_bool) sa_nil))))))))
def m_is_between : MS := sRet (eAnd (eCall 1 [] M_is_integer (aCons (eVar 0) (aNil))) (eChain oLe oLe (eVar 1) (eVar 0) (eVar 2)))
def M_is_between : List D → Sto → Res D := fnM 3 m_is_between
theorem sc_is_between : FnScope ["thing", "low", "high"] ["thing", "low", "high"] (defScope s_is_between) := ⟨rfl, rfl, rfl, by decide +kernel, rfl, by decide +kernel, by decide +kernel⟩
theorem d_is_between (F : Fx K w mg) : FnA P w K mg base (He.ga K "is_between") ["thing", "low", "high"] [] 2 M_is_between := by
  obtain ⟨fd, F1⟩ := F.def_ 1 (d := dd_is_between)
  have F0 : FunD K "is_between" "is_between" (defArgs s_is_between) (defBody s_is_between) (defScope s_is_between) [] [] (He.ga K "is_between") fd := F1
  refine fnA_of F0 sc_is_between (FunD.bindsN F0 fun _ _ _ _ _ _ us hl => match us, hl with | [_, _, _], _ => rfl) .nil (fun _ _ => .nil) fun cdv A outer s H E hr => ?_
  have g : Ge (cxOf (L2.CX P w) P w K mg base ["thing", "low", "high"] "is_between" (defScope s_is_between) (He.ga K "is_between") cdv A outer s H E) 1 := ⟨rfl, hr, sc_is_between.nd⟩
  have po : PassesOwn (model P w) (A.deeper (envOfC "is_between" (defScope s_is_between) s.heap.objs.size (He.ga K "is_between") cdv)) (envOfC "is_between" (defScope s_is_between) s.heap.objs.size (He.ga K "is_between") cdv) (cxOf (L2.CX P w) P w K mg base ["thing", "low", "high"] "is_between" (defScope s_is_between) (He.ga K "is_between") cdv A outer s H E).xe := PassesOwn.leaving
  exact (ss_one (ss_ret (se_and (se_call (d_is_integer F) g.hr rfl (g_is_integer F) (sa_cons v sa_nil)) (se_one (se_chain s_le s_le v v v)))))
def m_is_name : MS := sRet (eAnd (eN (oIsi tabI) (aCons (eVar 0) (aCons (eC (.ty "str")) (aNil)))) (eAnd (eChain oLe oLe (eC (.int 1)) (eN oLen (aCons (eVar 0) (aNil))) (eC (.int 8))) (eN oAll (aCons (eLc 300 (iANY (eVar 0)) (.nm 1) (tYesM) (eOp2 oIN (eVar 1) (eC (.str "abcdefghijklmnopqrstuvwxyz"))) [1]) (aNil)))))
def M_is_name : List D → Sto → Res D := fnM 2 m_is_name
theorem sc_is_name : FnScope ["thing", "letter"] ["thing"] (defScope s_is_name) := ⟨rfl, rfl, rfl, by decide +kernel, rfl, by decide +kernel, by decide +kernel⟩
theorem d_is_name (F : Fx K w mg) : FnA P w K mg base (He.ga K "is_name") ["thing"] [] 1 M_is_name := by
  obtain ⟨fd, F1⟩ := F.def_ 2 (d := dd_is_name)
  have F0 : FunD K "is_name" "is_name" (defArgs s_is_name) (defBody s_is_name) (defScope s_is_name) [] [] (He.ga K "is_name") fd := F1
  refine fnA_of F0 sc_is_name (FunD.bindsN F0 fun _ _ _ _ _ _ us hl => match us, hl with | [_], _ => rfl) .nil (fun _ _ => .nil) fun cdv A outer s H E hr => ?_
  have g : Ge (cxOf (L2.CX P w) P w K mg base ["thing", "letter"] "is_name" (defScope s_is_name) (He.ga K "is_name") cdv A outer s H E) 0 := ⟨rfl, hr, sc_is_name.nd⟩
  have po : PassesOwn (model P w) (A.deeper (envOfC "is_name" (defScope s_is_name) s.heap.objs.size (He.ga K "is_name") cdv)) (envOfC "is_name" (defScope s_is_name) s.heap.objs.size (He.ga K "is_name") cdv) (cxOf (L2.CX P w) P w K mg base ["thing", "letter"] "is_name" (defScope s_is_name) (He.ga K "is_name") cdv A outer s H E).xe := PassesOwn.leaving
  exact (ss_one (ss_ret (se_and (se_callB (s_isi F.isi) rfl (n_isinstance F) bt_isinstance (sa_cons v (sa_cons (se_ty rfl (n_str F) bt_str) sa_nil))) (se_and (se_chain s_le s_le se_int (se_callB s_len rfl (n_len F) bt_len (sa_cons v sa_nil)) se_int) (se_one (se_callB (s_all g.hc) rfl (n_all F) bt_all (sa_cons (lcG g (own := [("letter", 1)]) (i_any v) (by exact blkOk_by (by rfl)) (fun _ _ _ _ _ g => (tgv g)) (fun _ _ _ _ _ g => sts_nil) (fun _ _ _ _ _ g => (se_cmp (r_in g) v (se_glD rfl (k_LETTERS F))))) sa_nil)))))))
def m_Kind___init__ : MS := sSeq (sFld cs_parent "parent" (eVar 0) (eVar 1)) (sSeq (sFld cs_fields "fields" (eVar 0) (eVar 2)) (sFld cs_since "since" (eVar 0) (eVar 3)))
def M_Kind___init__ : List D → Sto → Res D := fnM 4 m_Kind___init__
theorem sc_Kind___init__ : FnScope ["self", "parent", "fields", "since"] ["self", "parent", "fields", "since"] (defScope s_Kind___init__) := ⟨rfl, rfl, rfl, by decide +kernel, rfl, by decide +kernel, by decide +kernel⟩
theorem d_Kind___init__ (F : Fx K w mg) : FnA P w K mg base (He.ma K (He.ga K "Kind") "__init__") ["self", "parent", "fields", "since"] [] 1 M_Kind___init__ := by
  obtain ⟨fd, F1⟩ := F.def_ 3 (d := dd_Kind___init__)
  have F0 : FunD K "__init__" "Kind.__init__" (defArgs s_Kind___init__) (defBody s_Kind___init__) (defScope s_Kind___init__) [] [] (He.ma K (He.ga K "Kind") "__init__") fd := F1
  refine fnA_of F0 sc_Kind___init__ (FunD.bindsN F0 fun _ _ _ _ _ _ us hl => match us, hl with | [_, _, _, _], _ => rfl) .nil (fun _ _ => .nil) fun cdv A outer s H E hr => ?_
  have g : Ge (cxOf (L2.CX P w) P w K mg base ["self", "parent", "fields", "since"] "Kind.__init__" (defScope s_Kind___init__) (He.ma K (He.ga K "Kind") "__init__") cdv A outer s H E) 0 := ⟨rfl, hr, sc_Kind___init__.nd⟩
  have po : PassesOwn (model P w) (A.deeper (envOfC "Kind.__init__" (defScope s_Kind___init__) s.heap.objs.size (He.ma K (He.ga K "Kind") "__init__") cdv)) (envOfC "Kind.__init__" (defScope s_Kind___init__) s.heap.objs.size (He.ma K (He.ga K "Kind") "__init__") cdv) (cxOf (L2.CX P w) P w K mg base ["self", "parent", "fields", "since"] "Kind.__init__" (defScope s_Kind___init__) (He.ma K (He.ga K "Kind") "__init__") cdv A outer s H E).xe := PassesOwn.leaving
  exact (ss_cons (ss_fld v v (f_parent F))
  (ss_cons (ss_fld v v (f_fields F))
  (ss_one (ss_fld v v (f_since F)))))
def m_Runtime_newest : MS := sRet (eOp2 oSub (eN oLen (aCons (eFld cs_tables "tables" (eVar 0)) (aNil))) (eC (.int 1)))
def M_Runtime_newest : List D → Sto → Res D := fnM 1 m_Runtime_newest
theorem sc_Runtime_newest : FnScope ["self"] ["self"] (defScope s_Runtime_newest) := ⟨rfl, rfl, rfl, by decide +kernel, rfl, by decide +kernel, by decide +kernel⟩
theorem d_Runtime_newest (F : Fx K w mg) : FnA P w K mg base (He.ma K (He.ga K "Runtime") "newest") ["self"] [] 1 M_Runtime_newest := by
  obtain ⟨fd, F1⟩ := F.def_ 4 (d := dd_Runtime_newest)
  have F0 : FunD K "newest" "Runtime.newest" (defArgs s_Runtime_newest) (defBody s_Runtime_newest) (defScope s_Runtime_newest) [] [] (He.ma K (He.ga K "Runtime") "newest") fd := F1
  refine fnA_of F0 sc_Runtime_newest (FunD.bindsN F0 fun _ _ _ _ _ _ us hl => match us, hl with | [_], _ => rfl) .nil (fun _ _ => .nil) fun cdv A outer s H E hr => ?_
  have g : Ge (cxOf (L2.CX P w) P w K mg base ["self"] "Runtime.newest" (defScope s_Runtime_newest) (He.ma K (He.ga K "Runtime") "newest") cdv A outer s H E) 0 := ⟨rfl, hr, sc_Runtime_newest.nd⟩
  have po : PassesOwn (model P w) (A.deeper (envOfC "Runtime.newest" (defScope s_Runtime_newest) s.heap.objs.size (He.ma K (He.ga K "Runtime") "newest") cdv)) (envOfC "Runtime.newest" (defScope s_Runtime_newest) s.heap.objs.size (He.ma K (He.ga K "Runtime") "newest") cdv) (cxOf (L2.CX P w) P w K mg base ["self"] "Runtime.newest" (defScope s_Runtime_newest) (He.ma K (He.ga K "Runtime") "newest") cdv A outer s H E).xe := PassesOwn.leaving
  exact (ss_one (ss_ret (se_bin s_sub (se_callB s_len rfl (n_len F) bt_len (sa_cons (se_fld v (f_tables F)) sa_nil)) se_int)))
def m_Runtime_table : MS := sRet (eOp2 oIX (eFld cs_tables "tables" (eVar 0)) (eVar 1))
def M_Runtime_table : List D → Sto → Res D := fnM 2 m_Runtime_table
theorem sc_Runtime_table : FnScope ["self", "world"] ["self", "world"] (defScope s_Runtime_table) := ⟨rfl, rfl, rfl, by decide +kernel, rfl, by decide +kernel, by decide +kernel⟩
theorem d_Runtime_table (F : Fx K w mg) : FnA P w K mg base (He.ma K (He.ga K "Runtime") "table") ["self", "world"] [] 1 M_Runtime_table := by
  obtain ⟨fd, F1⟩ := F.def_ 5 (d := dd_Runtime_table)
  have F0 : FunD K "table" "Runtime.table" (defArgs s_Runtime_table) (defBody s_Runtime_table) (defScope s_Runtime_table) [] [] (He.ma K (He.ga K "Runtime") "table") fd := F1
  refine fnA_of F0 sc_Runtime_table (FunD.bindsN F0 fun _ _ _ _ _ _ us hl => match us, hl with | [_, _], _ => rfl) .nil (fun _ _ => .nil) fun cdv A outer s H E hr => ?_
  have g : Ge (cxOf (L2.CX P w) P w K mg base ["self", "world"] "Runtime.table" (defScope s_Runtime_table) (He.ma K (He.ga K "Runtime") "table") cdv A outer s H E) 0 := ⟨rfl, hr, sc_Runtime_table.nd⟩
  have po : PassesOwn (model P w) (A.deeper (envOfC "Runtime.table" (defScope s_Runtime_table) s.heap.objs.size (He.ma K (He.ga K "Runtime") "table") cdv)) (envOfC "Runtime.table" (defScope s_Runtime_table) s.heap.objs.size (He.ma K (He.ga K "Runtime") "table") cdv) (cxOf (L2.CX P w) P w K mg base ["self", "world"] "Runtime.table" (defScope s_Runtime_table) (He.ma K (He.ga K "Runtime") "table") cdv A outer s H E).xe := PassesOwn.leaving
  exact (ss_one (ss_ret (se_ix (r_ix g) (se_fld v (f_tables F)) v)))
def m_Runtime_add_world : MS := sSeq (sExpr (eBM "list" oAppend (eFld cs_tables "tables" (eVar 0)) (aCons (eVar 1) (aNil)))) (sRet (eMeth "Runtime" "newest" 1 M_Runtime_newest (eVar 0) aNil))
def M_Runtime_add_world : List D → Sto → Res D := fnM 2 m_Runtime_add_world
theorem sc_Runtime_add_world : FnScope ["self", "table"] ["self", "table"] (defScope s_Runtime_add_world) := ⟨rfl, rfl, rfl, by decide +kernel, rfl, by decide +kernel, by decide +kernel⟩
theorem d_Runtime_add_world (F : Fx K w mg) : FnA P w K mg base (He.ma K (He.ga K "Runtime") "add_world") ["self", "table"] [] 2 M_Runtime_add_world := by
  obtain ⟨fd, F1⟩ := F.def_ 6 (d := dd_Runtime_add_world)
  have F0 : FunD K "add_world" "Runtime.add_world" (defArgs s_Runtime_add_world) (defBody s_Runtime_add_world) (defScope s_Runtime_add_world) [] [] (He.ma K (He.ga K "Runtime") "add_world") fd := F1
  refine fnA_of F0 sc_Runtime_add_world (FunD.bindsN F0 fun _ _ _ _ _ _ us hl => match us, hl with | [_, _], _ => rfl) .nil (fun _ _ => .nil) fun cdv A outer s H E hr => ?_
  have g : Ge (cxOf (L2.CX P w) P w K mg base ["self", "table"] "Runtime.add_world" (defScope s_Runtime_add_world) (He.ma K (He.ga K "Runtime") "add_world") cdv A outer s H E) 1 := ⟨rfl, hr, sc_Runtime_add_world.nd⟩
  have po : PassesOwn (model P w) (A.deeper (envOfC "Runtime.add_world" (defScope s_Runtime_add_world) s.heap.objs.size (He.ma K (He.ga K "Runtime") "add_world") cdv)) (envOfC "Runtime.add_world" (defScope s_Runtime_add_world) s.heap.objs.size (He.ma K (He.ga K "Runtime") "add_world") cdv) (cxOf (L2.CX P w) P w K mg base ["self", "table"] "Runtime.add_world" (defScope s_Runtime_add_world) (He.ma K (He.ga K "Runtime") "add_world") cdv A outer s H E).xe := PassesOwn.leaving
  exact (ss_cons (ss_expr (se_bm PySem.F.plainAttrs_list PySem.F.slot_list_append PySem.F.type_list_append s_append (se_fld v (f_tables F)) (sa_cons v sa_nil)))
  (ss_one (ss_ret (se_meth0 v (c_Runtime F) (mt_Runtime_newest F) (d_Runtime_newest F) g.hr))))
def m_Runtime___init__ : MS := sSeq (sFld cs_kinds "kinds" (eVar 0) (eDisp (dCons (eC (.str "any")) (eMake "Kind" 4 M_Kind___init__ (aCons (eC .non) (aCons (eTup (aNil)) (aCons (eC (.int 0)) (aNil))))) (dCons (eC (.str "int")) (eMake "Kind" 4 M_Kind___init__ (aCons (eC (.str "any")) (aCons (eTup (aNil)) (aCons (eC (.int 0)) (aNil))))) (dNil))))) (sSeq (sFld cs_tables "tables" (eVar 0) (eLst (aCons (eNewK) (aNil)))) (sSeq (sFld cs_entries "entries" (eVar 0) (eLst (aNil))) (sSeq (sFld cs_tasks "tasks" (eVar 0) (eLst (aNil))) (sSeq (sFld cs_solutions "solutions" (eVar 0) (eNewK)) (sSeq (sFld cs_shapes "shapes" (eVar 0) (eNewK)) (sFld cs_made "made" (eVar 0) (eDisp (dCons (eC (.str "direct")) (eC (.int 0)) (dCons (eC (.str "split")) (eC (.int 0)) (dCons (eC (.str "looked")) (eC (.int 0)) (dCons (eC (.str "newest")) (eC (.int 0)) (dNil))))))))))))
def M_Runtime___init__ : List D → Sto → Res D := fnM 1 m_Runtime___init__
theorem sc_Runtime___init__ : FnScope ["self"] ["self"] (defScope s_Runtime___init__) := ⟨rfl, rfl, rfl, by decide +kernel, rfl, by decide +kernel, by decide +kernel⟩
theorem d_Runtime___init__ (F : Fx K w mg) : FnA P w K mg base (He.ma K (He.ga K "Runtime") "__init__") ["self"] [] 3 M_Runtime___init__ := by
  obtain ⟨fd, F1⟩ := F.def_ 7 (d := dd_Runtime___init__)
  have F0 : FunD K "__init__" "Runtime.__init__" (defArgs s_Runtime___init__) (defBody s_Runtime___init__) (defScope s_Runtime___init__) [] [] (He.ma K (He.ga K "Runtime") "__init__") fd := F1
  refine fnA_of F0 sc_Runtime___init__ (FunD.bindsN F0 fun _ _ _ _ _ _ us hl => match us, hl with | [_], _ => rfl) .nil (fun _ _ => .nil) fun cdv A outer s H E hr => ?_
  have g : Ge (cxOf (L2.CX P w) P w K mg base ["self"] "Runtime.__init__" (defScope s_Runtime___init__) (He.ma K (He.ga K "Runtime") "__init__") cdv A outer s H E) 2 := ⟨rfl, hr, sc_Runtime___init__.nd⟩
  have po : PassesOwn (model P w) (A.deeper (envOfC "Runtime.__init__" (defScope s_Runtime___init__) s.heap.objs.size (He.ma K (He.ga K "Runtime") "__init__") cdv)) (envOfC "Runtime.__init__" (defScope s_Runtime___init__) s.heap.objs.size (He.ma K (He.ga K "Runtime") "__init__") cdv) (cxOf (L2.CX P w) P w K mg base ["self"] "Runtime.__init__" (defScope s_Runtime___init__) (He.ma K (He.ga K "Runtime") "__init__") cdv A outer s H E).xe := PassesOwn.leaving
  exact (ss_cons (ss_fld v (se_disp (sd_cons se_str (se_make (mk_Kind F) (d_Kind___init__ F) g.hr rfl (g_Kind F) (sa_cons se_non (sa_cons (se_tup sa_nil) (sa_cons se_int sa_nil)))) (sd_cons se_str (se_make (mk_Kind F) (d_Kind___init__ F) g.hr rfl (g_Kind F) (sa_cons se_str (sa_cons (se_tup sa_nil) (sa_cons se_int sa_nil)))) sd_nil))) (f_kinds F))
  (ss_cons (ss_fld v (se_lst (sa_cons se_newK sa_nil)) (f_tables F))
  (ss_cons (ss_fld v (se_lst sa_nil) (f_entries F))
  (ss_cons (ss_fld v (se_lst sa_nil) (f_tasks F))
  (ss_cons (ss_fld v se_newK (f_solutions F))
  (ss_cons (ss_fld v se_newK (f_shapes F))
  (ss_one (ss_fld v (se_disp (sd_cons se_str se_int (sd_cons se_str se_int (sd_cons se_str se_int (sd_cons se_str se_int sd_nil))))) (f_made F)))))))))
def m_now : MS := sRet (eMeth "Runtime" "newest" 1 M_Runtime_newest (eVar 0) aNil)
def M_now : List D → Sto → Res D := fnM 1 m_now
theorem sc_now : FnScope ["runtime"] ["runtime"] (defScope s_now) := ⟨rfl, rfl, rfl, by decide +kernel, rfl, by decide +kernel, by decide +kernel⟩
theorem d_now (F : Fx K w mg) : FnA P w K mg base (He.ga K "now") ["runtime"] [] 2 M_now := by
  obtain ⟨fd, F1⟩ := F.def_ 8 (d := dd_now)
  have F0 : FunD K "now" "now" (defArgs s_now) (defBody s_now) (defScope s_now) [] [] (He.ga K "now") fd := F1
  refine fnA_of F0 sc_now (FunD.bindsN F0 fun _ _ _ _ _ _ us hl => match us, hl with | [_], _ => rfl) .nil (fun _ _ => .nil) fun cdv A outer s H E hr => ?_
  have g : Ge (cxOf (L2.CX P w) P w K mg base ["runtime"] "now" (defScope s_now) (He.ga K "now") cdv A outer s H E) 1 := ⟨rfl, hr, sc_now.nd⟩
  have po : PassesOwn (model P w) (A.deeper (envOfC "now" (defScope s_now) s.heap.objs.size (He.ga K "now") cdv)) (envOfC "now" (defScope s_now) s.heap.objs.size (He.ga K "now") cdv) (cxOf (L2.CX P w) P w K mg base ["runtime"] "now" (defScope s_now) (He.ga K "now") cdv A outer s H E).xe := PassesOwn.leaving
  exact (ss_one (ss_ret (se_meth0 v (c_Runtime F) (mt_Runtime_newest F) (d_Runtime_newest F) g.hr)))
def m_world_of : MS := sSeq (sIf (tOf (eOp2 oIsN (eVar 1) (eC .non))) (sRet (eMeth "Runtime" "newest" 1 M_Runtime_newest (eVar 0) aNil)) (sNil)) (sSeq (sIf (tNot (tOf (eCall 3 [] M_is_between (aCons (eVar 1) (aCons (eC (.int 0)) (aCons (eMeth "Runtime" "newest" 1 M_Runtime_newest (eVar 0) aNil) (aNil))))))) (sNever) (sNil)) (sRet (eVar 1)))
def M_world_of : List D → Sto → Res D := fnM 2 m_world_of
theorem sc_world_of : FnScope ["runtime", "world"] ["runtime", "world"] (defScope s_world_of) := ⟨rfl, rfl, rfl, by decide +kernel, rfl, by decide +kernel, by decide +kernel⟩
theorem d_world_of (F : Fx K w mg) : FnA P w K mg base (He.ga K "world_of") ["runtime", "world"] [] 3 M_world_of := by
  obtain ⟨fd, F1⟩ := F.def_ 9 (d := dd_world_of)
  have F0 : FunD K "world_of" "world_of" (defArgs s_world_of) (defBody s_world_of) (defScope s_world_of) [] [] (He.ga K "world_of") fd := F1
  refine fnA_of F0 sc_world_of (FunD.bindsN F0 fun _ _ _ _ _ _ us hl => match us, hl with | [_, _], _ => rfl) .nil (fun _ _ => .nil) fun cdv A outer s H E hr => ?_
  have g : Ge (cxOf (L2.CX P w) P w K mg base ["runtime", "world"] "world_of" (defScope s_world_of) (He.ga K "world_of") cdv A outer s H E) 2 := ⟨rfl, hr, sc_world_of.nd⟩
  have po : PassesOwn (model P w) (A.deeper (envOfC "world_of" (defScope s_world_of) s.heap.objs.size (He.ga K "world_of") cdv)) (envOfC "world_of" (defScope s_world_of) s.heap.objs.size (He.ga K "world_of") cdv) (cxOf (L2.CX P w) P w K mg base ["runtime", "world"] "world_of" (defScope s_world_of) (He.ga K "world_of") cdv A outer s H E).xe := PassesOwn.leaving
  exact (ss_cons (ss_if (st_cmp s_isN v se_non) (ss_one (ss_ret (se_meth0 v (c_Runtime F) (mt_Runtime_newest F) (d_Runtime_newest F) g.hr))) ss_nil)
  (ss_cons (ss_if (st_not (st_val (se_call (d_is_between F) g.hr rfl (g_is_between F) (sa_cons v (sa_cons se_int (sa_cons (se_meth0 v (c_Runtime F) (mt_Runtime_newest F) (d_Runtime_newest F) g.hr) sa_nil)))))) (ss_one ss_never) ss_nil)
  (ss_one (ss_ret v))))
def m_is_class : MS := sRet (eAnd (eCall 1 [] M_is_name (aCons (eVar 1) (aNil))) (eOp2 oIN (eVar 1) (eFld cs_kinds "kinds" (eVar 0))))
def M_is_class : List D → Sto → Res D := fnM 2 m_is_class
theorem sc_is_class : FnScope ["runtime", "name"] ["runtime", "name"] (defScope s_is_class) := ⟨rfl, rfl, rfl, by decide +kernel, rfl, by decide +kernel, by decide +kernel⟩
theorem d_is_class (F : Fx K w mg) : FnA P w K mg base (He.ga K "is_class") ["runtime", "name"] [] 2 M_is_class := by
  obtain ⟨fd, F1⟩ := F.def_ 10 (d := dd_is_class)
  have F0 : FunD K "is_class" "is_class" (defArgs s_is_class) (defBody s_is_class) (defScope s_is_class) [] [] (He.ga K "is_class") fd := F1
  refine fnA_of F0 sc_is_class (FunD.bindsN F0 fun _ _ _ _ _ _ us hl => match us, hl with | [_, _], _ => rfl) .nil (fun _ _ => .nil) fun cdv A outer s H E hr => ?_
  have g : Ge (cxOf (L2.CX P w) P w K mg base ["runtime", "name"] "is_class" (defScope s_is_class) (He.ga K "is_class") cdv A outer s H E) 1 := ⟨rfl, hr, sc_is_class.nd⟩
  have po : PassesOwn (model P w) (A.deeper (envOfC "is_class" (defScope s_is_class) s.heap.objs.size (He.ga K "is_class") cdv)) (envOfC "is_class" (defScope s_is_class) s.heap.objs.size (He.ga K "is_class") cdv) (cxOf (L2.CX P w) P w K mg base ["runtime", "name"] "is_class" (defScope s_is_class) (He.ga K "is_class") cdv A outer s H E).xe := PassesOwn.leaving
  exact (ss_one (ss_ret (se_and (se_call (d_is_name F) g.hr rfl (g_is_name F) (sa_cons v sa_nil)) (se_one (se_cmp (r_in g) v (se_fld v (f_kinds F)))))))
def m_check_class : MS := sIf (tNot (tOf (eCall 2 [] M_is_class (aCons (eVar 0) (aCons (eVar 1) (aNil)))))) (sRaise "NoClass" "name" (eVar 1)) (sNil)
def M_check_class : List D → Sto → Res D := fnM 2 m_check_class
theorem sc_check_class : FnScope ["runtime", "name"] ["runtime", "name"] (defScope s_check_class) := ⟨rfl, rfl, rfl, by decide +kernel, rfl, by decide +kernel, by decide +kernel⟩
theorem d_check_class (F : Fx K w mg) : FnA P w K mg base (He.ga K "check_class") ["runtime", "name"] [] 3 M_check_class := by
  obtain ⟨fd, F1⟩ := F.def_ 11 (d := dd_check_class)
  have F0 : FunD K "check_class" "check_class" (defArgs s_check_class) (defBody s_check_class) (defScope s_check_class) [] [] (He.ga K "check_class") fd := F1
  refine fnA_of F0 sc_check_class (FunD.bindsN F0 fun _ _ _ _ _ _ us hl => match us, hl with | [_, _], _ => rfl) .nil (fun _ _ => .nil) fun cdv A outer s H E hr => ?_
  have g : Ge (cxOf (L2.CX P w) P w K mg base ["runtime", "name"] "check_class" (defScope s_check_class) (He.ga K "check_class") cdv A outer s H E) 2 := ⟨rfl, hr, sc_check_class.nd⟩
  have po : PassesOwn (model P w) (A.deeper (envOfC "check_class" (defScope s_check_class) s.heap.objs.size (He.ga K "check_class") cdv)) (envOfC "check_class" (defScope s_check_class) s.heap.objs.size (He.ga K "check_class") cdv) (cxOf (L2.CX P w) P w K mg base ["runtime", "name"] "check_class" (defScope s_check_class) (He.ga K "check_class") cdv A outer s H E).xe := PassesOwn.leaving
  exact (ss_one (ss_if (st_not (st_val (se_call (d_is_class F) g.hr rfl (g_is_class F) (sa_cons v (sa_cons v sa_nil))))) (ss_one (ss_raise (x_NoClass F) g.hc g.hr rfl (g_NoClass F) v)) ss_nil))
def m_line_of : MS := sSeq (sSet 2 (eLst (aNil))) (sSeq (loopW 300 (tOf (eOp2 oNotN (eVar 1) (eC .non))) (sSeq (sExpr (eBM "list" oAppend (eVar 2) (aCons (eVar 1) (aNil)))) (sSet 1 (eFld cs_parent "parent" (eOp2 oIX (eFld cs_kinds "kinds" (eVar 0)) (eVar 1)))))) (sRet (eVar 2)))
def M_line_of : List D → Sto → Res D := fnM 3 m_line_of
theorem sc_line_of : FnScope ["runtime", "name", "found"] ["runtime", "name"] (defScope s_line_of) := ⟨rfl, rfl, rfl, by decide +kernel, rfl, by decide +kernel, by decide +kernel⟩
theorem d_line_of (F : Fx K w mg) : FnA P w K mg base (He.ga K "line_of") ["runtime", "name"] [] 1 M_line_of := by
  obtain ⟨fd, F1⟩ := F.def_ 12 (d := dd_line_of)
  have F0 : FunD K "line_of" "line_of" (defArgs s_line_of) (defBody s_line_of) (defScope s_line_of) [] [] (He.ga K "line_of") fd := F1
  refine fnA_of F0 sc_line_of (FunD.bindsN F0 fun _ _ _ _ _ _ us hl => match us, hl with | [_, _], _ => rfl) .nil (fun _ _ => .nil) fun cdv A outer s H E hr => ?_
  have g : Ge (cxOf (L2.CX P w) P w K mg base ["runtime", "name", "found"] "line_of" (defScope s_line_of) (He.ga K "line_of") cdv A outer s H E) 0 := ⟨rfl, hr, sc_line_of.nd⟩
  have po : PassesOwn (model P w) (A.deeper (envOfC "line_of" (defScope s_line_of) s.heap.objs.size (He.ga K "line_of") cdv)) (envOfC "line_of" (defScope s_line_of) s.heap.objs.size (He.ga K "line_of") cdv) (cxOf (L2.CX P w) P w K mg base ["runtime", "name", "found"] "line_of" (defScope s_line_of) (He.ga K "line_of") cdv A outer s H E).xe := PassesOwn.leaving
  exact (ss_cons (setv g (se_lst sa_nil))
  (ss_cons (ss_while po (st_cmp s_notN v se_non) (ss_cons (ss_expr (se_bm PySem.F.plainAttrs_list PySem.F.slot_list_append PySem.F.type_list_append s_append v (sa_cons v sa_nil)))
  (ss_one (setv g (se_fld (se_ix (r_ix g) (se_fld v (f_kinds F)) v) (f_parent F))))))
  (ss_one (ss_ret v))))
def m_known : MS := sRet (eN oSRT (aCons (eLk (selOf (eFld cs_kinds "kinds" (eVar 0))) (eLc 300 (iItemsL (eFld cs_kinds "kinds" (eVar 0))) (.tp ((.nm 2) :: (.nm 3) :: [])) (tOf (eOp2 oLe (eFld cs_since "since" (eVar 3)) (eVar 1))) (eVar 2) [2, 3])) (aNil)))
def M_known : List D → Sto → Res D := fnM 4 m_known
theorem sc_known : FnScope ["runtime", "world", "name", "kind"] ["runtime", "world"] (defScope s_known) := ⟨rfl, rfl, rfl, by decide +kernel, rfl, by decide +kernel, by decide +kernel⟩
theorem d_known (F : Fx K w mg) : FnA P w K mg base (He.ga K "known") ["runtime", "world"] [] 1 M_known := by
  obtain ⟨fd, F1⟩ := F.def_ 13 (d := dd_known)
  have F0 : FunD K "known" "known" (defArgs s_known) (defBody s_known) (defScope s_known) [] [] (He.ga K "known") fd := F1
  refine fnA_of F0 sc_known (FunD.bindsN F0 fun _ _ _ _ _ _ us hl => match us, hl with | [_, _], _ => rfl) .nil (fun _ _ => .nil) fun cdv A outer s H E hr => ?_
  have g : Ge (cxOf (L2.CX P w) P w K mg base ["runtime", "world", "name", "kind"] "known" (defScope s_known) (He.ga K "known") cdv A outer s H E) 0 := ⟨rfl, hr, sc_known.nd⟩
  have po : PassesOwn (model P w) (A.deeper (envOfC "known" (defScope s_known) s.heap.objs.size (He.ga K "known") cdv)) (envOfC "known" (defScope s_known) s.heap.objs.size (He.ga K "known") cdv) (cxOf (L2.CX P w) P w K mg base ["runtime", "world", "name", "kind"] "known" (defScope s_known) (He.ga K "known") cdv A outer s H E).xe := PassesOwn.leaving
  exact (ss_one (ss_ret (se_callB (r_srt g) rfl (n_sorted F) bt_sorted (sa_cons (se_lk (lcG g (own := [("name", 2), ("kind", 3)]) (si_itemsL (se_fld v (f_kinds F))) (by exact blkOk_by (by rfl)) (fun _ _ _ _ _ g => (sg_tup g.hc (sg_cons (tgv g) (sg_cons (tgv g) sg_nil)))) (fun _ _ _ _ _ g => (sts_one (st_cmp s_le (se_fld v (f_since F)) v))) (fun _ _ _ _ _ g => v))) sa_nil))))
def m_seen : MS := sRet (eOp2 oIX (eLc 300 (iANY (eCall 2 [] M_line_of (aCons (eVar 0) (aCons (eVar 1) (aNil))))) (.nm 3) (tOf (eOp2 oLe (eFld cs_since "since" (eOp2 oIX (eFld cs_kinds "kinds" (eVar 0)) (eVar 3))) (eVar 2))) (eVar 3) [3]) (eC (.int 0)))
def M_seen : List D → Sto → Res D := fnM 4 m_seen
theorem sc_seen : FnScope ["runtime", "name", "world", "one"] ["runtime", "name", "world"] (defScope s_seen) := ⟨rfl, rfl, rfl, by decide +kernel, rfl, by decide +kernel, by decide +kernel⟩
theorem d_seen (F : Fx K w mg) : FnA P w K mg base (He.ga K "seen") ["runtime", "name", "world"] [] 2 M_seen := by
  obtain ⟨fd, F1⟩ := F.def_ 14 (d := dd_seen)
  have F0 : FunD K "seen" "seen" (defArgs s_seen) (defBody s_seen) (defScope s_seen) [] [] (He.ga K "seen") fd := F1
  refine fnA_of F0 sc_seen (FunD.bindsN F0 fun _ _ _ _ _ _ us hl => match us, hl with | [_, _, _], _ => rfl) .nil (fun _ _ => .nil) fun cdv A outer s H E hr => ?_
  have g : Ge (cxOf (L2.CX P w) P w K mg base ["runtime", "name", "world", "one"] "seen" (defScope s_seen) (He.ga K "seen") cdv A outer s H E) 1 := ⟨rfl, hr, sc_seen.nd⟩
  have po : PassesOwn (model P w) (A.deeper (envOfC "seen" (defScope s_seen) s.heap.objs.size (He.ga K "seen") cdv)) (envOfC "seen" (defScope s_seen) s.heap.objs.size (He.ga K "seen") cdv) (cxOf (L2.CX P w) P w K mg base ["runtime", "name", "world", "one"] "seen" (defScope s_seen) (He.ga K "seen") cdv A outer s H E).xe := PassesOwn.leaving
  exact (ss_one (ss_ret (se_ix (r_ix g) (lcG g (own := [("one", 3)]) (i_any (se_call (d_line_of F) g.hr rfl (g_line_of F) (sa_cons v (sa_cons v sa_nil)))) (by exact blkOk_by (by rfl)) (fun _ _ _ _ _ g => (tgv g)) (fun _ _ _ _ _ g => (sts_one (st_cmp s_le (se_fld (se_ix (r_ix g) (se_fld v (f_kinds F)) v) (f_since F)) v))) (fun _ _ _ _ _ g => v)) se_int)))
def m_below : MS := sRet (eOp2 oIN (eVar 2) (eCall 2 [] M_line_of (aCons (eVar 0) (aCons (eVar 1) (aNil)))))
def M_below : List D → Sto → Res D := fnM 3 m_below
theorem sc_below : FnScope ["runtime", "one", "other"] ["runtime", "one", "other"] (defScope s_below) := ⟨rfl, rfl, rfl, by decide +kernel, rfl, by decide +kernel, by decide +kernel⟩
theorem d_below (F : Fx K w mg) : FnA P w K mg base (He.ga K "below") ["runtime", "one", "other"] [] 2 M_below := by
  obtain ⟨fd, F1⟩ := F.def_ 15 (d := dd_below)
  have F0 : FunD K "below" "below" (defArgs s_below) (defBody s_below) (defScope s_below) [] [] (He.ga K "below") fd := F1
  refine fnA_of F0 sc_below (FunD.bindsN F0 fun _ _ _ _ _ _ us hl => match us, hl with | [_, _, _], _ => rfl) .nil (fun _ _ => .nil) fun cdv A outer s H E hr => ?_
  have g : Ge (cxOf (L2.CX P w) P w K mg base ["runtime", "one", "other"] "below" (defScope s_below) (He.ga K "below") cdv A outer s H E) 1 := ⟨rfl, hr, sc_below.nd⟩
  have po : PassesOwn (model P w) (A.deeper (envOfC "below" (defScope s_below) s.heap.objs.size (He.ga K "below") cdv)) (envOfC "below" (defScope s_below) s.heap.objs.size (He.ga K "below") cdv) (cxOf (L2.CX P w) P w K mg base ["runtime", "one", "other"] "below" (defScope s_below) (He.ga K "below") cdv A outer s H E).xe := PassesOwn.leaving
  exact (ss_one (ss_ret (se_cmp (r_in g) v (se_call (d_line_of F) g.hr rfl (g_line_of F) (sa_cons v (sa_cons v sa_nil))))))
def m_all_below : MS := sRet (eAnd (eOp2 oEQ (eN oLen (aCons (eVar 1) (aNil))) (eN oLen (aCons (eVar 2) (aNil)))) (eN oAll (aCons (eLc 300 (iZipS (aCons (eVar 1) (aCons (eVar 2) (aNil)))) (.tp ((.nm 3) :: (.nm 4) :: [])) (tYesM) (eCall 3 [] M_below (aCons (eVar 0) (aCons (eVar 3) (aCons (eVar 4) (aNil))))) [3, 4]) (aNil))))
def M_all_below : List D → Sto → Res D := fnM 5 m_all_below
theorem sc_all_below : FnScope ["runtime", "one", "other", "low", "high"] ["runtime", "one", "other"] (defScope s_all_below) := ⟨rfl, rfl, rfl, by decide +kernel, rfl, by decide +kernel, by decide +kernel⟩
theorem d_all_below (F : Fx K w mg) : FnA P w K mg base (He.ga K "all_below") ["runtime", "one", "other"] [] 3 M_all_below := by
  obtain ⟨fd, F1⟩ := F.def_ 16 (d := dd_all_below)
  have F0 : FunD K "all_below" "all_below" (defArgs s_all_below) (defBody s_all_below) (defScope s_all_below) [] [] (He.ga K "all_below") fd := F1
  refine fnA_of F0 sc_all_below (FunD.bindsN F0 fun _ _ _ _ _ _ us hl => match us, hl with | [_, _, _], _ => rfl) .nil (fun _ _ => .nil) fun cdv A outer s H E hr => ?_
  have g : Ge (cxOf (L2.CX P w) P w K mg base ["runtime", "one", "other", "low", "high"] "all_below" (defScope s_all_below) (He.ga K "all_below") cdv A outer s H E) 2 := ⟨rfl, hr, sc_all_below.nd⟩
  have po : PassesOwn (model P w) (A.deeper (envOfC "all_below" (defScope s_all_below) s.heap.objs.size (He.ga K "all_below") cdv)) (envOfC "all_below" (defScope s_all_below) s.heap.objs.size (He.ga K "all_below") cdv) (cxOf (L2.CX P w) P w K mg base ["runtime", "one", "other", "low", "high"] "all_below" (defScope s_all_below) (He.ga K "all_below") cdv A outer s H E).xe := PassesOwn.leaving
  exact (ss_one (ss_ret (se_and (se_cmp (r_eq g) (se_callB s_len rfl (n_len F) bt_len (sa_cons v sa_nil)) (se_callB s_len rfl (n_len F) bt_len (sa_cons v sa_nil))) (se_one (se_callB (s_all g.hc) rfl (n_all F) bt_all (sa_cons (lcG g (own := [("low", 3), ("high", 4)]) (si_zipS rfl (n_zip F) (sa_cons v (sa_cons v sa_nil))) (by exact blkOk_by (by rfl)) (fun _ _ _ _ _ g => (sg_tup g.hc (sg_cons (tgv g) (sg_cons (tgv g) sg_nil)))) (fun _ _ _ _ _ g => sts_nil) (fun _ _ _ _ _ g => (se_call (d_below F) g.hr rfl (g_below F) (sa_cons v (sa_cons v (sa_cons v sa_nil)))))) sa_nil))))))
def m_own_fields : MS := sSeq (sIf (tOr (tNot (tOf (eN (oIsi tabI) (aCons (eVar 2) (aCons (eC (.ty "tuple")) (aNil)))))) (tOf (eOp2 oGt (eN oLen (aCons (eVar 2) (aNil))) (eC (.int 3))))) (sNever) (sNil)) (sSeq (sSet 3 (eLc 300 (iANY (eFld cs_fields "fields" (eOp2 oIX (eFld cs_kinds "kinds" (eVar 0)) (eVar 1)))) (.tp ((.nm 5) :: (.nm 6) :: [])) (tYesM) (eVar 5) [5, 6])) (sSeq (sFor 300 (iANY (eVar 2)) (.nm 4) (sSeq (sIf (tOr (tNot (tOf (eN (oIsi tabI) (aCons (eVar 4) (aCons (eC (.ty "tuple")) (aNil)))))) (tOr (tOf (eOp2 oNE (eN oLen (aCons (eVar 4) (aNil))) (eC (.int 2)))) (tOr (tNot (tOf (eCall 1 [] M_is_name (aCons (eOp2 oIX (eVar 4) (eC (.int 0))) (aNil))))) (tOf (eOp2 oIN (eOp2 oIX (eVar 4) (eC (.int 0))) (eVar 3)))))) (sNever) (sNil)) (sSeq (sIf (tNot (tOf (eCall 2 [] M_is_class (aCons (eVar 0) (aCons (eOp2 oIX (eVar 4) (eC (.int 1))) (aNil)))))) (sNever) (sNil)) (sExpr (eBM "list" oAppend (eVar 3) (aCons (eOp2 oIX (eVar 4) (eC (.int 0))) (aNil))))))) (sRet (eOp2 oPlus (eFld cs_fields "fields" (eOp2 oIX (eFld cs_kinds "kinds" (eVar 0)) (eVar 1))) (eVar 2)))))
def M_own_fields : List D → Sto → Res D := fnM 7 m_own_fields
theorem sc_own_fields : FnScope ["runtime", "parent", "fields", "names", "item", "name", "bound"] ["runtime", "parent", "fields"] (defScope s_own_fields) := ⟨rfl, rfl, rfl, by decide +kernel, rfl, by decide +kernel, by decide +kernel⟩
theorem d_own_fields (F : Fx K w mg) : FnA P w K mg base (He.ga K "own_fields") ["runtime", "parent", "fields"] [] 3 M_own_fields := by
  obtain ⟨fd, F1⟩ := F.def_ 17 (d := dd_own_fields)
  have F0 : FunD K "own_fields" "own_fields" (defArgs s_own_fields) (defBody s_own_fields) (defScope s_own_fields) [] [] (He.ga K "own_fields") fd := F1
  refine fnA_of F0 sc_own_fields (FunD.bindsN F0 fun _ _ _ _ _ _ us hl => match us, hl with | [_, _, _], _ => rfl) .nil (fun _ _ => .nil) fun cdv A outer s H E hr => ?_
  have g : Ge (cxOf (L2.CX P w) P w K mg base ["runtime", "parent", "fields", "names", "item", "name", "bound"] "own_fields" (defScope s_own_fields) (He.ga K "own_fields") cdv A outer s H E) 2 := ⟨rfl, hr, sc_own_fields.nd⟩
  have po : PassesOwn (model P w) (A.deeper (envOfC "own_fields" (defScope s_own_fields) s.heap.objs.size (He.ga K "own_fields") cdv)) (envOfC "own_fields" (defScope s_own_fields) s.heap.objs.size (He.ga K "own_fields") cdv) (cxOf (L2.CX P w) P w K mg base ["runtime", "parent", "fields", "names", "item", "name", "bound"] "own_fields" (defScope s_own_fields) (He.ga K "own_fields") cdv A outer s H E).xe := PassesOwn.leaving
  exact (ss_cons (ss_if (st_w (sw_or (st_not (st_val (se_callB (s_isi F.isi) rfl (n_isinstance F) bt_isinstance (sa_cons v (sa_cons (se_ty rfl (n_tuple F) bt_tuple) sa_nil))))) (sw_or1 (st_cmp s_gt (se_callB s_len rfl (n_len F) bt_len (sa_cons v sa_nil)) (se_glD rfl (k_MOST_FIELDS F)))))) (ss_one ss_never) ss_nil)
  (ss_cons (setLcG g (own := [("name", 5), ("bound", 6)]) (i_any (se_fld (se_ix (r_ix g) (se_fld v (f_kinds F)) v) (f_fields F))) (by exact blkOk_by (by rfl)) (fun _ _ _ _ _ g => (sg_tup g.hc (sg_cons (tgv g) (sg_cons (tgv g) sg_nil)))) (fun _ _ _ _ _ g => sts_nil) (fun _ _ _ _ _ g => v))
  (ss_cons (ss_for po g.hc (i_any v) (tgv g) (ss_cons (ss_if (st_w (sw_or (st_not (st_val (se_callB (s_isi F.isi) rfl (n_isinstance F) bt_isinstance (sa_cons v (sa_cons (se_ty rfl (n_tuple F) bt_tuple) sa_nil))))) (sw_or (st_cmp (r_ne g) (se_callB s_len rfl (n_len F) bt_len (sa_cons v sa_nil)) se_int) (sw_or (st_not (st_val (se_call (d_is_name F) g.hr rfl (g_is_name F) (sa_cons (se_ix (r_ix g) v se_int) sa_nil)))) (sw_or1 (st_cmp (r_in g) (se_ix (r_ix g) v se_int) v)))))) (ss_one ss_never) ss_nil)
  (ss_cons (ss_if (st_not (st_val (se_call (d_is_class F) g.hr rfl (g_is_class F) (sa_cons v (sa_cons (se_ix (r_ix g) v se_int) sa_nil))))) (ss_one ss_never) ss_nil)
  (ss_one (ss_expr (se_bm PySem.F.plainAttrs_list PySem.F.slot_list_append PySem.F.type_list_append s_append v (sa_cons (se_ix (r_ix g) v se_int) sa_nil)))))))
  (ss_one (ss_ret (se_bin r_plus (se_fld (se_ix (r_ix g) (se_fld v (f_kinds F)) v) (f_fields F)) v))))))
def m_add_class : MS := sSeq (sIf (tNot (tOf (eCall 1 [] M_is_name (aCons (eVar 1) (aNil))))) (sRaise "NoClass" "name" (eVar 1)) (sNil)) (sSeq (sIf (tOf (eOp2 oIN (eVar 1) (eFld cs_kinds "kinds" (eVar 0)))) (sNever) (sNil)) (sSeq (sExpr (eCall 2 [] M_check_class (aCons (eVar 0) (aCons (eVar 2) (aNil))))) (sSeq (sIf (tOf (eOp2 oEQ (eVar 2) (eC (.str "int")))) (sRaise "NoClass" "name" (eVar 2)) (sNil)) (sSeq (sSet 4 (eCall 3 [] M_own_fields (aCons (eVar 0) (aCons (eVar 2) (aCons (eVar 3) (aNil)))))) (sSeq (sSet 5 (eMeth "Runtime" "add_world" 2 M_Runtime_add_world (eVar 0) (aCons (eMeth "Runtime" "table" 2 M_Runtime_table (eVar 0) (aCons (eMeth "Runtime" "newest" 1 M_Runtime_newest (eVar 0) aNil) (aNil))) (aNil)))) (sSeq (altS (sPutK (eFld cs_kinds "kinds" (eVar 0)) (eVar 1) (eMake "Kind" 4 M_Kind___init__ (aCons (eVar 2) (aCons (eVar 4) (aCons (eVar 5) (aNil)))))) (altS (sPutN (eFld cs_kinds "kinds" (eVar 0)) (eVar 1) (eMake "Kind" 4 M_Kind___init__ (aCons (eVar 2) (aCons (eVar 4) (aCons (eVar 5) (aNil)))))) (sPutL (eFld cs_kinds "kinds" (eVar 0)) (eVar 1) (eMake "Kind" 4 M_Kind___init__ (aCons (eVar 2) (aCons (eVar 4) (aCons (eVar 5) (aNil)))))))) (sRet (eVar 5))))))))
def M_add_class : List D → Sto → Res D := fnM 6 m_add_class
theorem sc_add_class : FnScope ["runtime", "name", "parent", "fields", "every", "world"] ["runtime", "name", "parent", "fields"] (defScope s_add_class) := ⟨rfl, rfl, rfl, by decide +kernel, rfl, by decide +kernel, by decide +kernel⟩
theorem d_add_class (F : Fx K w mg) : FnA P w K mg base (He.ga K "add_class") ["runtime", "name", "parent", "fields"] [.tup []] 4 M_add_class := by
  obtain ⟨fd, F1⟩ := F.def_ 18 (d := dd_add_class)
  have F0 : FunD K "add_class" "add_class" (defArgs s_add_class) (defBody s_add_class) (defScope s_add_class) [] [("fields", .ref (kwAt K "add_class" "fields"))] (He.ga K "add_class") fd := F1
  obtain ⟨ds, r, b⟩ := FunD.binds0 (ps := ["runtime", "name", "parent", "fields"]) F0 3 (List.cons_ne_nil _ _) rfl fun D doc pm an cdv ct us ks h1 h2 => (match us, ks, h1, h2 with | [_, _, _], [_], _, _ => ⟨_, _, _, _, _, _, rfl, rfl, rfl⟩)
  refine fnA_of F0 sc_add_class b r (fun R H => .cons (kwT F R H) (.nil)) fun cdv A outer s H E hr => ?_
  have g : Ge (cxOf (L2.CX P w) P w K mg base ["runtime", "name", "parent", "fields", "every", "world"] "add_class" (defScope s_add_class) (He.ga K "add_class") cdv A outer s H E) 3 := ⟨rfl, hr, sc_add_class.nd⟩
  have po : PassesOwn (model P w) (A.deeper (envOfC "add_class" (defScope s_add_class) s.heap.objs.size (He.ga K "add_class") cdv)) (envOfC "add_class" (defScope s_add_class) s.heap.objs.size (He.ga K "add_class") cdv) (cxOf (L2.CX P w) P w K mg base ["runtime", "name", "parent", "fields", "every", "world"] "add_class" (defScope s_add_class) (He.ga K "add_class") cdv A outer s H E).xe := PassesOwn.leaving
  exact (ss_cons (ss_if (st_not (st_val (se_call (d_is_name F) g.hr rfl (g_is_name F) (sa_cons v sa_nil)))) (ss_one (ss_raise (x_NoClass F) g.hc g.hr rfl (g_NoClass F) v)) ss_nil)
  (ss_cons (ss_if (st_cmp (r_in g) v (se_fld v (f_kinds F))) (ss_one ss_never) ss_nil)
  (ss_cons (ss_expr (se_call (d_check_class F) g.hr rfl (g_check_class F) (sa_cons v (sa_cons v sa_nil))))
  (ss_cons (ss_if (st_cmp (r_eq g) v se_str) (ss_one (ss_raise (x_NoClass F) g.hc g.hr rfl (g_NoClass F) v)) ss_nil)
  (ss_cons (setv g (se_call (d_own_fields F) g.hr rfl (g_own_fields F) (sa_cons v (sa_cons v (sa_cons v sa_nil)))))
  (ss_cons (setv g (se_meth v (c_Runtime F) (mt_Runtime_add_world F) (d_Runtime_add_world F) g.hr (sa_cons (se_meth v (c_Runtime F) (mt_Runtime_table F) (d_Runtime_table F) g.hr (sa_cons (se_meth0 v (c_Runtime F) (mt_Runtime_newest F) (d_Runtime_newest F) g.hr) sa_nil)) sa_nil)))
  (ss_cons (ss_alt (ss_putK (by have := g.hu; omega) (se_fld v (f_kinds F)) v (se_make (mk_Kind F) (d_Kind___init__ F) g.hr rfl (g_Kind F) (sa_cons v (sa_cons v (sa_cons v sa_nil))))) (ss_alt (ss_putN g.h64 (se_fld v (f_kinds F)) v (se_make (mk_Kind F) (d_Kind___init__ F) g.hr rfl (g_Kind F) (sa_cons v (sa_cons v (sa_cons v sa_nil))))) (ss_putL (se_fld v (f_kinds F)) v (se_make (mk_Kind F) (d_Kind___init__ F) g.hr rfl (g_Kind F) (sa_cons v (sa_cons v (sa_cons v sa_nil)))))))
  (ss_one (ss_ret v)))))))))
def m_classes : MS := sRet (eCall 2 [] M_known (aCons (eVar 0) (aCons (eCall 2 [] M_world_of (aCons (eVar 0) (aCons (eVar 1) (aNil)))) (aNil))))
def M_classes : List D → Sto → Res D := fnM 2 m_classes
theorem sc_classes : FnScope ["runtime", "world"] ["runtime", "world"] (defScope s_classes) := ⟨rfl, rfl, rfl, by decide +kernel, rfl, by decide +kernel, by decide +kernel⟩
theorem d_classes (F : Fx K w mg) : FnA P w K mg base (He.ga K "classes") ["runtime", "world"] [.non] 4 M_classes := by
  obtain ⟨fd, F1⟩ := F.def_ 19 (d := dd_classes)
  have F0 : FunD K "classes" "classes" (defArgs s_classes) (defBody s_classes) (defScope s_classes) [] [("world", .non)] (He.ga K "classes") fd := F1
  obtain ⟨ds, r, b⟩ := FunD.binds0 (ps := ["runtime", "world"]) F0 1 (List.cons_ne_nil _ _) rfl fun D doc pm an cdv ct us ks h1 h2 => (match us, ks, h1, h2 with | [_], [_], _, _ => ⟨_, _, _, _, _, _, rfl, rfl, rfl⟩)
  refine fnA_of F0 sc_classes b r (fun R H => .cons (.non) (.nil)) fun cdv A outer s H E hr => ?_
  have g : Ge (cxOf (L2.CX P w) P w K mg base ["runtime", "world"] "classes" (defScope s_classes) (He.ga K "classes") cdv A outer s H E) 3 := ⟨rfl, hr, sc_classes.nd⟩
  have po : PassesOwn (model P w) (A.deeper (envOfC "classes" (defScope s_classes) s.heap.objs.size (He.ga K "classes") cdv)) (envOfC "classes" (defScope s_classes) s.heap.objs.size (He.ga K "classes") cdv) (cxOf (L2.CX P w) P w K mg base ["runtime", "world"] "classes" (defScope s_classes) (He.ga K "classes") cdv A outer s H E).xe := PassesOwn.leaving
  exact (ss_one (ss_ret (se_call (d_known F) g.hr rfl (g_known F) (sa_cons v (sa_cons (se_call (d_world_of F) g.hr rfl (g_world_of F) (sa_cons v (sa_cons v sa_nil))) sa_nil)))))
def m_Place___init__ : MS := sSeq (sFld cs_piece "piece" (eVar 0) (eVar 1)) (sSeq (sFld cs_path "path" (eVar 0) (eVar 2)) (sSeq (sFld cs_count "count" (eVar 0) (eVar 3)) (sFld cs_names "names" (eVar 0) (eVar 4))))
def M_Place___init__ : List D → Sto → Res D := fnM 5 m_Place___init__
theorem sc_Place___init__ : FnScope ["self", "part", "path", "count", "names"] ["self", "part", "path", "count", "names"] (defScope s_Place___init__) := ⟨rfl, rfl, rfl, by decide +kernel, rfl, by decide +kernel, by decide +kernel⟩
theorem d_Place___init__ (F : Fx K w mg) : FnA P w K mg base (He.ma K (He.ga K "Place") "__init__") ["self", "part", "path", "count", "names"] [] 1 M_Place___init__ := by
  obtain ⟨fd, F1⟩ := F.def_ 20 (d := dd_Place___init__)
  have F0 : FunD K "__init__" "Place.__init__" (defArgs s_Place___init__) (defBody s_Place___init__) (defScope s_Place___init__) [] [] (He.ma K (He.ga K "Place") "__init__") fd := F1
  refine fnA_of F0 sc_Place___init__ (FunD.bindsN F0 fun _ _ _ _ _ _ us hl => match us, hl with | [_, _, _, _, _], _ => rfl) .nil (fun _ _ => .nil) fun cdv A outer s H E hr => ?_
  have g : Ge (cxOf (L2.CX P w) P w K mg base ["self", "part", "path", "count", "names"] "Place.__init__" (defScope s_Place___init__) (He.ma K (He.ga K "Place") "__init__") cdv A outer s H E) 0 := ⟨rfl, hr, sc_Place___init__.nd⟩
  have po : PassesOwn (model P w) (A.deeper (envOfC "Place.__init__" (defScope s_Place___init__) s.heap.objs.size (He.ma K (He.ga K "Place") "__init__") cdv)) (envOfC "Place.__init__" (defScope s_Place___init__) s.heap.objs.size (He.ma K (He.ga K "Place") "__init__") cdv) (cxOf (L2.CX P w) P w K mg base ["self", "part", "path", "count", "names"] "Place.__init__" (defScope s_Place___init__) (He.ma K (He.ga K "Place") "__init__") cdv A outer s H E).xe := PassesOwn.leaving
  exact (ss_cons (ss_fld v v (f_piece F))
  (ss_cons (ss_fld v v (f_path F))
  (ss_cons (ss_fld v v (f_count F))
  (ss_one (ss_fld v v (f_names F))))))
def m_is_signature : MS := sRet (eAnd (eN (oIsi tabI) (aCons (eVar 1) (aCons (eC (.ty "tuple")) (aNil)))) (eAnd (eOp2 oIN (eN oLen (aCons (eVar 1) (aNil))) (eTup (aCons (eC (.int 1)) (aCons (eC (.int 2)) (aNil))))) (eN oAll (aCons (eLc 300 (iANY (eVar 1)) (.nm 2) (tYesM) (eCall 2 [] M_is_class (aCons (eVar 0) (aCons (eVar 2) (aNil)))) [2]) (aNil)))))
def M_is_signature : List D → Sto → Res D := fnM 3 m_is_signature
theorem sc_is_signature : FnScope ["runtime", "thing", "name"] ["runtime", "thing"] (defScope s_is_signature) := ⟨rfl, rfl, rfl, by decide +kernel, rfl, by decide +kernel, by decide +kernel⟩
theorem d_is_signature (F : Fx K w mg) : FnA P w K mg base (He.ga K "is_signature") ["runtime", "thing"] [] 3 M_is_signature := by
  obtain ⟨fd, F1⟩ := F.def_ 21 (d := dd_is_signature)
  have F0 : FunD K "is_signature" "is_signature" (defArgs s_is_signature) (defBody s_is_signature) (defScope s_is_signature) [] [] (He.ga K "is_signature") fd := F1
  refine fnA_of F0 sc_is_signature (FunD.bindsN F0 fun _ _ _ _ _ _ us hl => match us, hl with | [_, _], _ => rfl) .nil (fun _ _ => .nil) fun cdv A outer s H E hr => ?_
  have g : Ge (cxOf (L2.CX P w) P w K mg base ["runtime", "thing", "name"] "is_signature" (defScope s_is_signature) (He.ga K "is_signature") cdv A outer s H E) 2 := ⟨rfl, hr, sc_is_signature.nd⟩
  have po : PassesOwn (model P w) (A.deeper (envOfC "is_signature" (defScope s_is_signature) s.heap.objs.size (He.ga K "is_signature") cdv)) (envOfC "is_signature" (defScope s_is_signature) s.heap.objs.size (He.ga K "is_signature") cdv) (cxOf (L2.CX P w) P w K mg base ["runtime", "thing", "name"] "is_signature" (defScope s_is_signature) (He.ga K "is_signature") cdv A outer s H E).xe := PassesOwn.leaving
  exact (ss_one (ss_ret (se_and (se_callB (s_isi F.isi) rfl (n_isinstance F) bt_isinstance (sa_cons v (sa_cons (se_ty rfl (n_tuple F) bt_tuple) sa_nil))) (se_and (se_cmp (r_in g) (se_callB s_len rfl (n_len F) bt_len (sa_cons v sa_nil)) (se_tup (sa_cons se_int (sa_cons se_int sa_nil)))) (se_one (se_callB (s_all g.hc) rfl (n_all F) bt_all (sa_cons (lcG g (own := [("name", 2)]) (i_any v) (by exact blkOk_by (by rfl)) (fun _ _ _ _ _ g => (tgv g)) (fun _ _ _ _ _ g => sts_nil) (fun _ _ _ _ _ g => (se_call (d_is_class F) g.hr rfl (g_is_class F) (sa_cons v (sa_cons v sa_nil))))) sa_nil)))))))
def m_indexes_within : MS := sSeq (sIf (tOr (tOf (eOp2 oIN (eOp2 oIX (eVar 0) (eC (.int 0))) (eC (.tup [.str "call", .str "newest"])))) (tOf (eOp2 oEQ (eOp2 oIX (eVar 0) (eC (.int 0))) (eC (.str "new"))))) (sNever) (sNil)) (sRet (eGetG tab_WITHIN (eOp2 oIX (eVar 0) (eC (.int 0))) (eTup (aNil))))
def M_indexes_within : List D → Sto → Res D := fnM 1 m_indexes_within
theorem sc_indexes_within : FnScope ["part"] ["part"] (defScope s_indexes_within) := ⟨rfl, rfl, rfl, by decide +kernel, rfl, by decide +kernel, by decide +kernel⟩
theorem d_indexes_within (F : Fx K w mg) : FnA P w K mg base (He.ga K "indexes_within") ["part"] [] 1 M_indexes_within := by
  obtain ⟨fd, F1⟩ := F.def_ 22 (d := dd_indexes_within)
  have F0 : FunD K "indexes_within" "indexes_within" (defArgs s_indexes_within) (defBody s_indexes_within) (defScope s_indexes_within) [] [] (He.ga K "indexes_within") fd := F1
  refine fnA_of F0 sc_indexes_within (FunD.bindsN F0 fun _ _ _ _ _ _ us hl => match us, hl with | [_], _ => rfl) .nil (fun _ _ => .nil) fun cdv A outer s H E hr => ?_
  have g : Ge (cxOf (L2.CX P w) P w K mg base ["part"] "indexes_within" (defScope s_indexes_within) (He.ga K "indexes_within") cdv A outer s H E) 0 := ⟨rfl, hr, sc_indexes_within.nd⟩
  have po : PassesOwn (model P w) (A.deeper (envOfC "indexes_within" (defScope s_indexes_within) s.heap.objs.size (He.ga K "indexes_within") cdv)) (envOfC "indexes_within" (defScope s_indexes_within) s.heap.objs.size (He.ga K "indexes_within") cdv) (cxOf (L2.CX P w) P w K mg base ["part"] "indexes_within" (defScope s_indexes_within) (He.ga K "indexes_within") cdv A outer s H E).xe := PassesOwn.leaving
  exact (ss_cons (ss_if (st_w (sw_or (st_cmp (r_in g) (se_ix (r_ix g) v se_int) (se_glD rfl (k_CALLS_bodies F))) (sw_or1 (st_cmp (r_eq g) (se_ix (r_ix g) v se_int) se_str)))) (ss_one ss_never) ss_nil)
  (ss_one (ss_ret (se_getG F.tab_WITHIN rfl (g_WITHIN F) (se_ix (r_ix g) v se_int) (se_tup sa_nil) ⟨rfl, rfl, rfl, rfl⟩))))
def m_is_call_part : MS := sRet (eAnd (eOp2 oIN (eOp2 oIX (eVar 0) (eC (.int 0))) (eC (.tup [.str "call", .str "newest"]))) (eAnd (eOp2 oIN (eN oLen (aCons (eVar 0) (aNil))) (eTup (aCons (eC (.int 3)) (aCons (eC (.int 4)) (aNil))))) (eCall 1 [] M_is_name (aCons (eOp2 oIX (eVar 0) (eC (.int 1))) (aNil)))))
def M_is_call_part : List D → Sto → Res D := fnM 1 m_is_call_part
theorem sc_is_call_part : FnScope ["part"] ["part"] (defScope s_is_call_part) := ⟨rfl, rfl, rfl, by decide +kernel, rfl, by decide +kernel, by decide +kernel⟩
theorem d_is_call_part (F : Fx K w mg) : FnA P w K mg base (He.ga K "is_call_part") ["part"] [] 2 M_is_call_part := by
  obtain ⟨fd, F1⟩ := F.def_ 23 (d := dd_is_call_part)
  have F0 : FunD K "is_call_part" "is_call_part" (defArgs s_is_call_part) (defBody s_is_call_part) (defScope s_is_call_part) [] [] (He.ga K "is_call_part") fd := F1
  refine fnA_of F0 sc_is_call_part (FunD.bindsN F0 fun _ _ _ _ _ _ us hl => match us, hl with | [_], _ => rfl) .nil (fun _ _ => .nil) fun cdv A outer s H E hr => ?_
  have g : Ge (cxOf (L2.CX P w) P w K mg base ["part"] "is_call_part" (defScope s_is_call_part) (He.ga K "is_call_part") cdv A outer s H E) 1 := ⟨rfl, hr, sc_is_call_part.nd⟩
  have po : PassesOwn (model P w) (A.deeper (envOfC "is_call_part" (defScope s_is_call_part) s.heap.objs.size (He.ga K "is_call_part") cdv)) (envOfC "is_call_part" (defScope s_is_call_part) s.heap.objs.size (He.ga K "is_call_part") cdv) (cxOf (L2.CX P w) P w K mg base ["part"] "is_call_part" (defScope s_is_call_part) (He.ga K "is_call_part") cdv A outer s H E).xe := PassesOwn.leaving
  exact (ss_one (ss_ret (se_and (se_cmp (r_in g) (se_ix (r_ix g) v se_int) (se_glD rfl (k_CALLS_bodies F))) (se_and (se_cmp (r_in g) (se_callB s_len rfl (n_len F) bt_len (sa_cons v sa_nil)) (se_tup (sa_cons se_int (sa_cons se_int sa_nil)))) (se_one (se_call (d_is_name F) g.hr rfl (g_is_name F) (sa_cons (se_ix (r_ix g) v se_int) sa_nil)))))))
def m_is_new_part : MS := sSeq (sIf (tOr (tOf (eOp2 oNE (eOp2 oIX (eVar 1) (eC (.int 0))) (eC (.str "new")))) (tOr (tOf (eOp2 oLt (eN oLen (aCons (eVar 1) (aNil))) (eC (.int 2)))) (tOr (tNot (tOf (eCall 2 [] M_is_class (aCons (eVar 0) (aCons (eOp2 oIX (eVar 1) (eC (.int 1))) (aNil)))))) (tOf (eOp2 oEQ (eOp2 oIX (eVar 1) (eC (.int 1))) (eC (.str "int"))))))) (sRet (eC (.bl false))) (sNil)) (sRet (eOp2 oEQ (eN oLen (aCons (eVar 1) (aNil))) (eOp2 oPlus (eC (.int 2)) (eN oLen (aCons (eFld cs_fields "fields" (eOp2 oIX (eFld cs_kinds "kinds" (eVar 0)) (eOp2 oIX (eVar 1) (eC (.int 1))))) (aNil))))))
def M_is_new_part : List D → Sto → Res D := fnM 2 m_is_new_part
theorem sc_is_new_part : FnScope ["runtime", "part"] ["runtime", "part"] (defScope s_is_new_part) := ⟨rfl, rfl, rfl, by decide +kernel, rfl, by decide +kernel, by decide +kernel⟩
theorem d_is_new_part (F : Fx K w mg) : FnA P w K mg base (He.ga K "is_new_part") ["runtime", "part"] [] 3 M_is_new_part := by
  obtain ⟨fd, F1⟩ := F.def_ 24 (d := dd_is_new_part)
  have F0 : FunD K "is_new_part" "is_new_part" (defArgs s_is_new_part) (defBody s_is_new_part) (defScope s_is_new_part) [] [] (He.ga K "is_new_part") fd := F1
  refine fnA_of F0 sc_is_new_part (FunD.bindsN F0 fun _ _ _ _ _ _ us hl => match us, hl with | [_, _], _ => rfl) .nil (fun _ _ => .nil) fun cdv A outer s H E hr => ?_
  have g : Ge (cxOf (L2.CX P w) P w K mg base ["runtime", "part"] "is_new_part" (defScope s_is_new_part) (He.ga K "is_new_part") cdv A outer s H E) 2 := ⟨rfl, hr, sc_is_new_part.nd⟩
  have po : PassesOwn (model P w) (A.deeper (envOfC "is_new_part" (defScope s_is_new_part) s.heap.objs.size (He.ga K "is_new_part") cdv)) (envOfC "is_new_part" (defScope s_is_new_part) s.heap.objs.size (He.ga K "is_new_part") cdv) (cxOf (L2.CX P w) P w K mg base ["runtime", "part"] "is_new_part" (defScope s_is_new_part) (He.ga K "is_new_part") cdv A outer s H E).xe := PassesOwn.leaving
  exact (ss_cons (ss_if (st_w (sw_or (st_cmp (r_ne g) (se_ix (r_ix g) v se_int) se_str) (sw_or (st_cmp s_lt (se_callB s_len rfl (n_len F) bt_len (sa_cons v sa_nil)) se_int) (sw_or (st_not (st_val (se_call (d_is_class F) g.hr rfl (g_is_class F) (sa_cons v (sa_cons (se_ix (r_ix g) v se_int) sa_nil))))) (sw_or1 (st_cmp (r_eq g) (se_ix (r_ix g) v se_int) se_str)))))) (ss_one (ss_ret se_bl)) ss_nil)
  (ss_one (ss_ret (se_cmp (r_eq g) (se_callB s_len rfl (n_len F) bt_len (sa_cons v sa_nil)) (se_bin r_plus se_int (se_callB s_len rfl (n_len F) bt_len (sa_cons (se_fld (se_ix (r_ix g) (se_fld v (f_kinds F)) (se_ix (r_ix g) v se_int)) (f_fields F)) sa_nil)))))))
def m_is_leaf_part : MS := sSeq (sAsg (.tp ((.nm 1) :: (.nm 2) :: [])) (eFld cs_piece "piece" (eVar 0))) (sSeq (sIf (tOf (eOp2 oEQ (eVar 1) (eC (.str "int")))) (sRet (eCall 3 [] M_is_between (aCons (eVar 2) (aCons (eOp1 oNeg (eC (.int 1000000000))) (aCons (eC (.int 1000000000)) (aNil)))))) (sNil)) (sSeq (sIf (tOf (eOp2 oEQ (eVar 1) (eC (.str "arg")))) (sRet (eCall 3 [] M_is_between (aCons (eVar 2) (aCons (eC (.int 0)) (aCons (eOp2 oSub (eFld cs_count "count" (eVar 0)) (eC (.int 1))) (aNil)))))) (sNil)) (sRet (eAnd (eCall 1 [] M_is_name (aCons (eVar 2) (aNil))) (eOp2 oIN (eVar 2) (eFld cs_names "names" (eVar 0)))))))
def M_is_leaf_part : List D → Sto → Res D := fnM 3 m_is_leaf_part
theorem sc_is_leaf_part : FnScope ["place", "word", "thing"] ["place"] (defScope s_is_leaf_part) := ⟨rfl, rfl, rfl, by decide +kernel, rfl, by decide +kernel, by decide +kernel⟩
theorem d_is_leaf_part (F : Fx K w mg) : FnA P w K mg base (He.ga K "is_leaf_part") ["place"] [] 3 M_is_leaf_part := by
  obtain ⟨fd, F1⟩ := F.def_ 25 (d := dd_is_leaf_part)
  have F0 : FunD K "is_leaf_part" "is_leaf_part" (defArgs s_is_leaf_part) (defBody s_is_leaf_part) (defScope s_is_leaf_part) [] [] (He.ga K "is_leaf_part") fd := F1
  refine fnA_of F0 sc_is_leaf_part (FunD.bindsN F0 fun _ _ _ _ _ _ us hl => match us, hl with | [_], _ => rfl) .nil (fun _ _ => .nil) fun cdv A outer s H E hr => ?_
  have g : Ge (cxOf (L2.CX P w) P w K mg base ["place", "word", "thing"] "is_leaf_part" (defScope s_is_leaf_part) (He.ga K "is_leaf_part") cdv A outer s H E) 2 := ⟨rfl, hr, sc_is_leaf_part.nd⟩
  have po : PassesOwn (model P w) (A.deeper (envOfC "is_leaf_part" (defScope s_is_leaf_part) s.heap.objs.size (He.ga K "is_leaf_part") cdv)) (envOfC "is_leaf_part" (defScope s_is_leaf_part) s.heap.objs.size (He.ga K "is_leaf_part") cdv) (cxOf (L2.CX P w) P w K mg base ["place", "word", "thing"] "is_leaf_part" (defScope s_is_leaf_part) (He.ga K "is_leaf_part") cdv A outer s H E).xe := PassesOwn.leaving
  exact (ss_cons (ss_asg (se_fld v (f_piece F)) (sg_tup g.hc (sg_cons (tgv g) (sg_cons (tgv g) sg_nil))))
  (ss_cons (ss_if (st_cmp (r_eq g) v se_str) (ss_one (ss_ret (se_call (d_is_between F) g.hr rfl (g_is_between F) (sa_cons v (sa_cons (se_un s_neg (se_glD rfl (k_GREATEST F))) (sa_cons (se_glD rfl (k_GREATEST F)) sa_nil)))))) ss_nil)
  (ss_cons (ss_if (st_cmp (r_eq g) v se_str) (ss_one (ss_ret (se_call (d_is_between F) g.hr rfl (g_is_between F) (sa_cons v (sa_cons se_int (sa_cons (se_bin s_sub (se_fld v (f_count F)) se_int) sa_nil)))))) ss_nil)
  (ss_one (ss_ret (se_and (se_call (d_is_name F) g.hr rfl (g_is_name F) (sa_cons v sa_nil)) (se_one (se_cmp (r_in g) v (se_fld v (f_names F))))))))))
def m_is_valid_part : MS := sSeq (sSet 2 (eFld cs_piece "piece" (eVar 1))) (sSeq (sIf (tOr (tNot (tOf (eN (oIsi tabI) (aCons (eVar 2) (aCons (eC (.ty "tuple")) (aNil)))))) (tOr (tOf (eOp2 oEQ (eVar 2) (eTup (aNil)))) (tNot (tOf (eN (oIsi tabI) (aCons (eOp2 oIX (eVar 2) (eC (.int 0))) (aCons (eC (.ty "str")) (aNil)))))))) (sRet (eC (.bl false))) (sNil)) (sSeq (sIf (tOr (tOf (eCall 1 [] M_is_call_part (aCons (eVar 2) (aNil)))) (tOf (eCall 2 [] M_is_new_part (aCons (eVar 0) (aCons (eVar 2) (aNil)))))) (sRet (eC (.bl true))) (sNil)) (sSeq (sIf (tOf (eOp2 oNE (eGetG tab_LENGTHS_bodies (eOp2 oIX (eVar 2) (eC (.int 0))) (eC (.int 0))) (eN oLen (aCons (eVar 2) (aNil))))) (sRet (eC (.bl false))) (sNil)) (sSeq (sIf (tOf (eOp2 oIN (eOp2 oIX (eVar 2) (eC (.int 0))) (eTup (aCons (eC (.str "int")) (aCons (eC (.str "arg")) (aCons (eC (.str "name")) (aNil))))))) (sRet (eCall 1 [] M_is_leaf_part (aCons (eVar 1) (aNil)))) (sNil)) (sSeq (sIf (tOf (eOp2 oEQ (eOp2 oIX (eVar 2) (eC (.int 0))) (eC (.str "let")))) (sRet (eCall 1 [] M_is_name (aCons (eOp2 oIX (eVar 2) (eC (.int 1))) (aNil)))) (sNil)) (sSeq (sIf (tOf (eOp2 oEQ (eOp2 oIX (eVar 2) (eC (.int 0))) (eC (.str "field")))) (sRet (eCall 1 [] M_is_name (aCons (eOp2 oIX (eVar 2) (eC (.int 2))) (aNil)))) (sNil)) (sSeq (sIf (tOf (eOp2 oEQ (eOp2 oIX (eVar 2) (eC (.int 0))) (eC (.str "is")))) (sRet (eCall 2 [] M_is_class (aCons (eVar 0) (aCons (eOp2 oIX (eVar 2) (eC (.int 2))) (aNil))))) (sNil)) (sRet (eOr (eOp2 oNE (eOp2 oIX (eVar 2) (eC (.int 0))) (eC (.str "define"))) (eAnd (eCall 1 [] M_is_name (aCons (eOp2 oIX (eVar 2) (eC (.int 1))) (aNil))) (eCall 2 [] M_is_signature (aCons (eVar 0) (aCons (eOp2 oIX (eVar 2) (eC (.int 2))) (aNil))))))))))))))
def M_is_valid_part : List D → Sto → Res D := fnM 3 m_is_valid_part
theorem sc_is_valid_part : FnScope ["runtime", "place", "part"] ["runtime", "place"] (defScope s_is_valid_part) := ⟨rfl, rfl, rfl, by decide +kernel, rfl, by decide +kernel, by decide +kernel⟩
theorem d_is_valid_part (F : Fx K w mg) : FnA P w K mg base (He.ga K "is_valid_part") ["runtime", "place"] [] 4 M_is_valid_part := by
  obtain ⟨fd, F1⟩ := F.def_ 26 (d := dd_is_valid_part)
  have F0 : FunD K "is_valid_part" "is_valid_part" (defArgs s_is_valid_part) (defBody s_is_valid_part) (defScope s_is_valid_part) [] [] (He.ga K "is_valid_part") fd := F1
  refine fnA_of F0 sc_is_valid_part (FunD.bindsN F0 fun _ _ _ _ _ _ us hl => match us, hl with | [_, _], _ => rfl) .nil (fun _ _ => .nil) fun cdv A outer s H E hr => ?_
  have g : Ge (cxOf (L2.CX P w) P w K mg base ["runtime", "place", "part"] "is_valid_part" (defScope s_is_valid_part) (He.ga K "is_valid_part") cdv A outer s H E) 3 := ⟨rfl, hr, sc_is_valid_part.nd⟩
  have po : PassesOwn (model P w) (A.deeper (envOfC "is_valid_part" (defScope s_is_valid_part) s.heap.objs.size (He.ga K "is_valid_part") cdv)) (envOfC "is_valid_part" (defScope s_is_valid_part) s.heap.objs.size (He.ga K "is_valid_part") cdv) (cxOf (L2.CX P w) P w K mg base ["runtime", "place", "part"] "is_valid_part" (defScope s_is_valid_part) (He.ga K "is_valid_part") cdv A outer s H E).xe := PassesOwn.leaving
  exact (ss_cons (setv g (se_fld v (f_piece F)))
  (ss_cons (ss_if (st_w (sw_or (st_not (st_val (se_callB (s_isi F.isi) rfl (n_isinstance F) bt_isinstance (sa_cons v (sa_cons (se_ty rfl (n_tuple F) bt_tuple) sa_nil))))) (sw_or (st_cmp (r_eq g) v (se_tup sa_nil)) (sw_or1 (st_not (st_val (se_callB (s_isi F.isi) rfl (n_isinstance F) bt_isinstance (sa_cons (se_ix (r_ix g) v se_int) (sa_cons (se_ty rfl (n_str F) bt_str) sa_nil))))))))) (ss_one (ss_ret se_bl)) ss_nil)
  (ss_cons (ss_if (st_w (sw_or (st_val (se_call (d_is_call_part F) g.hr rfl (g_is_call_part F) (sa_cons v sa_nil))) (sw_or1 (st_val (se_call (d_is_new_part F) g.hr rfl (g_is_new_part F) (sa_cons v (sa_cons v sa_nil))))))) (ss_one (ss_ret se_bl)) ss_nil)
  (ss_cons (ss_if (st_cmp (r_ne g) (se_getG F.tab_LENGTHS_bodies rfl (g_LENGTHS_bodies F) (se_ix (r_ix g) v se_int) se_int ⟨rfl, rfl, rfl, rfl⟩) (se_callB s_len rfl (n_len F) bt_len (sa_cons v sa_nil))) (ss_one (ss_ret se_bl)) ss_nil)
  (ss_cons (ss_if (st_cmp (r_in g) (se_ix (r_ix g) v se_int) (se_tup (sa_cons se_str (sa_cons se_str (sa_cons se_str sa_nil))))) (ss_one (ss_ret (se_call (d_is_leaf_part F) g.hr rfl (g_is_leaf_part F) (sa_cons v sa_nil)))) ss_nil)
  (ss_cons (ss_if (st_cmp (r_eq g) (se_ix (r_ix g) v se_int) se_str) (ss_one (ss_ret (se_call (d_is_name F) g.hr rfl (g_is_name F) (sa_cons (se_ix (r_ix g) v se_int) sa_nil)))) ss_nil)
  (ss_cons (ss_if (st_cmp (r_eq g) (se_ix (r_ix g) v se_int) se_str) (ss_one (ss_ret (se_call (d_is_name F) g.hr rfl (g_is_name F) (sa_cons (se_ix (r_ix g) v se_int) sa_nil)))) ss_nil)
  (ss_cons (ss_if (st_cmp (r_eq g) (se_ix (r_ix g) v se_int) se_str) (ss_one (ss_ret (se_call (d_is_class F) g.hr rfl (g_is_class F) (sa_cons v (sa_cons (se_ix (r_ix g) v se_int) sa_nil))))) ss_nil)
  (ss_one (ss_ret (se_or (se_cmp (r_ne g) (se_ix (r_ix g) v se_int) se_str) (se_one (se_and (se_call (d_is_name F) g.hr rfl (g_is_name F) (sa_cons (se_ix (r_ix g) v se_int) sa_nil)) (se_one (se_call (d_is_signature F) g.hr rfl (g_is_signature F) (sa_cons v (sa_cons (se_ix (r_ix g) v se_int) sa_nil)))))))))))))))))
def m_places_within : MS := sSeq (sPar 1 2 (aCons (eFld cs_piece "piece" (eVar 0)) (aCons (eLst (aNil)) (aNil)))) (sSeq (sFor 300 (iANY (eCall 1 [] M_indexes_within (aCons (eVar 1) (aNil)))) (.nm 3) (sSeq (sPar 4 5 (aCons (eFld cs_count "count" (eVar 0)) (aCons (eFld cs_names "names" (eVar 0)) (aNil)))) (sSeq (sIf (tAnd (tOf (eOp2 oEQ (eOp2 oIX (eVar 1) (eC (.int 0))) (eC (.str "let")))) (tOf (eOp2 oEQ (eVar 3) (eC (.int 3))))) (sSet 5 (eOp2 oPlus (eVar 5) (eTup (aCons (eOp2 oIX (eVar 1) (eC (.int 1))) (aNil))))) (sNil)) (sSeq (sIf (tOf (eOp2 oEQ (eOp2 oIX (eVar 1) (eC (.int 0))) (eC (.str "define")))) (sPar 4 5 (aCons (eN oLen (aCons (eOp2 oIX (eVar 1) (eC (.int 2))) (aNil))) (aCons (eTup (aNil)) (aNil)))) (sNil)) (sExpr (eBM "list" oAppend (eVar 2) (aCons (eMake "Place" 5 M_Place___init__ (aCons (eOp2 oIX (eVar 1) (eVar 3)) (aCons (eOp2 oPlus (eFld cs_path "path" (eVar 0)) (eTup (aCons (eVar 3) (aNil)))) (aCons (eVar 4) (aCons (eVar 5) (aNil)))))) (aNil)))))))) (sRet (eVar 2)))
def M_places_within : List D → Sto → Res D := fnM 6 m_places_within
theorem sc_places_within : FnScope ["place", "part", "found", "index", "count", "names"] ["place"] (defScope s_places_within) := ⟨rfl, rfl, rfl, by decide +kernel, rfl, by decide +kernel, by decide +kernel⟩
theorem d_places_within (F : Fx K w mg) : FnA P w K mg base (He.ga K "places_within") ["place"] [] 3 M_places_within := by
  obtain ⟨fd, F1⟩ := F.def_ 27 (d := dd_places_within)
  have F0 : FunD K "places_within" "places_within" (defArgs s_places_within) (defBody s_places_within) (defScope s_places_within) [] [] (He.ga K "places_within") fd := F1
  refine fnA_of F0 sc_places_within (FunD.bindsN F0 fun _ _ _ _ _ _ us hl => match us, hl with | [_], _ => rfl) .nil (fun _ _ => .nil) fun cdv A outer s H E hr => ?_
  have g : Ge (cxOf (L2.CX P w) P w K mg base ["place", "part", "found", "index", "count", "names"] "places_within" (defScope s_places_within) (He.ga K "places_within") cdv A outer s H E) 2 := ⟨rfl, hr, sc_places_within.nd⟩
  have po : PassesOwn (model P w) (A.deeper (envOfC "places_within" (defScope s_places_within) s.heap.objs.size (He.ga K "places_within") cdv)) (envOfC "places_within" (defScope s_places_within) s.heap.objs.size (He.ga K "places_within") cdv) (cxOf (L2.CX P w) P w K mg base ["place", "part", "found", "index", "count", "names"] "places_within" (defScope s_places_within) (He.ga K "places_within") cdv A outer s H E).xe := PassesOwn.leaving
  exact (ss_cons (ss_par g.hc g.nd rfl rfl (by decide) rfl rfl (sa_cons (se_fld v (f_piece F)) (sa_cons (se_lst sa_nil) sa_nil)) rfl)
  (ss_cons (ss_for po g.hc (i_any (se_call (d_indexes_within F) g.hr rfl (g_indexes_within F) (sa_cons v sa_nil))) (tgv g) (ss_cons (ss_par g.hc g.nd rfl rfl (by decide) rfl rfl (sa_cons (se_fld v (f_count F)) (sa_cons (se_fld v (f_names F)) sa_nil)) rfl)
  (ss_cons (ss_if (st_w (sw_and (st_cmp (r_eq g) (se_ix (r_ix g) v se_int) se_str) (sw_and1 (st_cmp (r_eq g) v se_int)))) (ss_one (setv g (se_bin r_plus v (se_tup (sa_cons (se_ix (r_ix g) v se_int) sa_nil))))) ss_nil)
  (ss_cons (ss_if (st_cmp (r_eq g) (se_ix (r_ix g) v se_int) se_str) (ss_one (ss_par g.hc g.nd rfl rfl (by decide) rfl rfl (sa_cons (se_callB s_len rfl (n_len F) bt_len (sa_cons (se_ix (r_ix g) v se_int) sa_nil)) (sa_cons (se_tup sa_nil) sa_nil)) rfl)) ss_nil)
  (ss_one (ss_expr (se_bm PySem.F.plainAttrs_list PySem.F.slot_list_append PySem.F.type_list_append s_append v (sa_cons (se_make (mk_Place F) (d_Place___init__ F) g.hr rfl (g_Place F) (sa_cons (se_ix (r_ix g) v v) (sa_cons (se_bin r_plus (se_fld v (f_path F)) (se_tup (sa_cons v sa_nil))) (sa_cons v (sa_cons v sa_nil))))) sa_nil))))))))
  (ss_one (ss_ret v))))
def m_check_valid : MS := sSeq (sPar 3 4 (aCons (eLst (aCons (eMake "Place" 5 M_Place___init__ (aCons (eVar 1) (aCons (eTup (aNil)) (aCons (eVar 2) (aCons (eTup (aNil)) (aNil)))))) (aNil))) (aCons (eC (.int 0)) (aNil)))) (loopW 300 (tOf (eOp2 oNE (eVar 3) (eLst (aNil)))) (sSeq (sSet 5 (eBM "list" oPop (eVar 3) aNil)) (sSeq (sIf (tOf (eOp2 oEQ (eVar 4) (eC (.int 24)))) (sNever) (sNil)) (sSeq (sIf (tNot (tOf (eCall 2 [] M_is_valid_part (aCons (eVar 0) (aCons (eVar 5) (aNil)))))) (sNever) (sNil)) (sSeq (sAug 4 (oI2 fun a b => .int (a + b)) (eC (.int 1))) (sExpr (eBM "list" oExtend (eVar 3) (aCons (eOp1 oRevL (eCall 1 [] M_places_within (aCons (eVar 5) (aNil)))) (aNil)))))))))
def M_check_valid : List D → Sto → Res D := fnM 6 m_check_valid
theorem sc_check_valid : FnScope ["runtime", "body", "count", "waiting", "many", "place"] ["runtime", "body", "count"] (defScope s_check_valid) := ⟨rfl, rfl, rfl, by decide +kernel, rfl, by decide +kernel, by decide +kernel⟩
theorem d_check_valid (F : Fx K w mg) : FnA P w K mg base (He.ga K "check_valid") ["runtime", "body", "count"] [] 5 M_check_valid := by
  obtain ⟨fd, F1⟩ := F.def_ 28 (d := dd_check_valid)
  have F0 : FunD K "check_valid" "check_valid" (defArgs s_check_valid) (defBody s_check_valid) (defScope s_check_valid) [] [] (He.ga K "check_valid") fd := F1
  refine fnA_of F0 sc_check_valid (FunD.bindsN F0 fun _ _ _ _ _ _ us hl => match us, hl with | [_, _, _], _ => rfl) .nil (fun _ _ => .nil) fun cdv A outer s H E hr => ?_
  have g : Ge (cxOf (L2.CX P w) P w K mg base ["runtime", "body", "count", "waiting", "many", "place"] "check_valid" (defScope s_check_valid) (He.ga K "check_valid") cdv A outer s H E) 4 := ⟨rfl, hr, sc_check_valid.nd⟩
  have po : PassesOwn (model P w) (A.deeper (envOfC "check_valid" (defScope s_check_valid) s.heap.objs.size (He.ga K "check_valid") cdv)) (envOfC "check_valid" (defScope s_check_valid) s.heap.objs.size (He.ga K "check_valid") cdv) (cxOf (L2.CX P w) P w K mg base ["runtime", "body", "count", "waiting", "many", "place"] "check_valid" (defScope s_check_valid) (He.ga K "check_valid") cdv A outer s H E).xe := PassesOwn.leaving
  exact (ss_cons (ss_par g.hc g.nd rfl rfl (by decide) rfl rfl (sa_cons (se_lst (sa_cons (se_make (mk_Place F) (d_Place___init__ F) g.hr rfl (g_Place F) (sa_cons v (sa_cons (se_tup sa_nil) (sa_cons v (sa_cons (se_tup sa_nil) sa_nil))))) sa_nil)) (sa_cons se_int sa_nil)) rfl)
  (ss_one (ss_while po (st_cmp (r_ne g) v (se_lst sa_nil)) (ss_cons (setv g (se_bm0 PySem.F.plainAttrs_list PySem.F.slot_list_pop PySem.F.type_list_pop s_pop v))
  (ss_cons (ss_if (st_cmp (r_eq g) v (se_glD rfl (k_MOST_PARTS F))) (ss_one ss_never) ss_nil)
  (ss_cons (ss_if (st_not (st_val (se_call (d_is_valid_part F) g.hr rfl (g_is_valid_part F) (sa_cons v (sa_cons v sa_nil))))) (ss_one ss_never) ss_nil)
  (ss_cons (ss_augI ip_add g.nd rfl (by first | exact .inl rfl | exact .inr rfl) se_int)
  (ss_one (ss_expr (se_bm PySem.F.plainAttrs_list PySem.F.slot_list_extend PySem.F.type_list_extend s_extend v (sa_cons (se_rev (se_call (d_places_within F) g.hr rfl (g_places_within F) (sa_cons v sa_nil))) sa_nil)))))))))))
def m_check_function : MS := sIf (tNot (tOf (eCall 1 [] M_is_name (aCons (eVar 0) (aNil))))) (sRaise "NoFunction" "function" (eVar 0)) (sNil)
def M_check_function : List D → Sto → Res D := fnM 1 m_check_function
theorem sc_check_function : FnScope ["function"] ["function"] (defScope s_check_function) := ⟨rfl, rfl, rfl, by decide +kernel, rfl, by decide +kernel, by decide +kernel⟩
theorem d_check_function (F : Fx K w mg) : FnA P w K mg base (He.ga K "check_function") ["function"] [] 3 M_check_function := by
  obtain ⟨fd, F1⟩ := F.def_ 29 (d := dd_check_function)
  have F0 : FunD K "check_function" "check_function" (defArgs s_check_function) (defBody s_check_function) (defScope s_check_function) [] [] (He.ga K "check_function") fd := F1
  refine fnA_of F0 sc_check_function (FunD.bindsN F0 fun _ _ _ _ _ _ us hl => match us, hl with | [_], _ => rfl) .nil (fun _ _ => .nil) fun cdv A outer s H E hr => ?_
  have g : Ge (cxOf (L2.CX P w) P w K mg base ["function"] "check_function" (defScope s_check_function) (He.ga K "check_function") cdv A outer s H E) 2 := ⟨rfl, hr, sc_check_function.nd⟩
  have po : PassesOwn (model P w) (A.deeper (envOfC "check_function" (defScope s_check_function) s.heap.objs.size (He.ga K "check_function") cdv)) (envOfC "check_function" (defScope s_check_function) s.heap.objs.size (He.ga K "check_function") cdv) (cxOf (L2.CX P w) P w K mg base ["function"] "check_function" (defScope s_check_function) (He.ga K "check_function") cdv A outer s H E).xe := PassesOwn.leaving
  exact (ss_one (ss_if (st_not (st_val (se_call (d_is_name F) g.hr rfl (g_is_name F) (sa_cons v sa_nil)))) (ss_one (ss_raise (x_NoFunction F) g.hc g.hr rfl (g_NoFunction F) v)) ss_nil))
def m_check_signature : MS := sIf (tNot (tOf (eCall 2 [] M_is_signature (aCons (eVar 0) (aCons (eVar 1) (aNil)))))) (sRaise "NoSignature" "signature" (eVar 1)) (sNil)
def M_check_signature : List D → Sto → Res D := fnM 2 m_check_signature
theorem sc_check_signature : FnScope ["runtime", "signature"] ["runtime", "signature"] (defScope s_check_signature) := ⟨rfl, rfl, rfl, by decide +kernel, rfl, by decide +kernel, by decide +kernel⟩
theorem d_check_signature (F : Fx K w mg) : FnA P w K mg base (He.ga K "check_signature") ["runtime", "signature"] [] 4 M_check_signature := by
  obtain ⟨fd, F1⟩ := F.def_ 30 (d := dd_check_signature)
  have F0 : FunD K "check_signature" "check_signature" (defArgs s_check_signature) (defBody s_check_signature) (defScope s_check_signature) [] [] (He.ga K "check_signature") fd := F1
  refine fnA_of F0 sc_check_signature (FunD.bindsN F0 fun _ _ _ _ _ _ us hl => match us, hl with | [_, _], _ => rfl) .nil (fun _ _ => .nil) fun cdv A outer s H E hr => ?_
  have g : Ge (cxOf (L2.CX P w) P w K mg base ["runtime", "signature"] "check_signature" (defScope s_check_signature) (He.ga K "check_signature") cdv A outer s H E) 3 := ⟨rfl, hr, sc_check_signature.nd⟩
  have po : PassesOwn (model P w) (A.deeper (envOfC "check_signature" (defScope s_check_signature) s.heap.objs.size (He.ga K "check_signature") cdv)) (envOfC "check_signature" (defScope s_check_signature) s.heap.objs.size (He.ga K "check_signature") cdv) (cxOf (L2.CX P w) P w K mg base ["runtime", "signature"] "check_signature" (defScope s_check_signature) (He.ga K "check_signature") cdv A outer s H E).xe := PassesOwn.leaving
  exact (ss_one (ss_if (st_not (st_val (se_call (d_is_signature F) g.hr rfl (g_is_signature F) (sa_cons v (sa_cons v sa_nil))))) (ss_one (ss_raise (x_NoSignature F) g.hc g.hr rfl (g_NoSignature F) v)) ss_nil))
def m_define_in : MS := sSeq (sSet 4 (eMeth "Runtime" "table" 2 M_Runtime_table (eVar 0) (aCons (eMeth "Runtime" "newest" 1 M_Runtime_newest (eVar 0) aNil) (aNil)))) (sSeq (sIf (tAnd (tOf (eOp2 oIN (eTup (aCons (eVar 1) (aCons (eVar 2) (aNil)))) (eVar 4))) (tOf (eOp2 oEQ (eOp2 oIX (eVar 4) (eTup (aCons (eVar 1) (aCons (eVar 2) (aNil))))) (eVar 3)))) (sRet (eMeth "Runtime" "newest" 1 M_Runtime_newest (eVar 0) aNil)) (sNil)) (sSeq (sSet 5 (eN oDict (aCons (eVar 4) (aNil)))) (sSeq (altS (sPutK (eVar 5) (eTup (aCons (eVar 1) (aCons (eVar 2) (aNil)))) (eVar 3)) (altS (sPutN (eVar 5) (eTup (aCons (eVar 1) (aCons (eVar 2) (aNil)))) (eVar 3)) (sPutL (eVar 5) (eTup (aCons (eVar 1) (aCons (eVar 2) (aNil)))) (eVar 3)))) (sRet (eMeth "Runtime" "add_world" 2 M_Runtime_add_world (eVar 0) (aCons (eVar 5) (aNil)))))))
def M_define_in : List D → Sto → Res D := fnM 6 m_define_in
theorem sc_define_in : FnScope ["runtime", "function", "signature", "body", "table", "later"] ["runtime", "function", "signature", "body"] (defScope s_define_in) := ⟨rfl, rfl, rfl, by decide +kernel, rfl, by decide +kernel, by decide +kernel⟩
theorem d_define_in (F : Fx K w mg) : FnA P w K mg base (He.ga K "define_in") ["runtime", "function", "signature", "body"] [] 3 M_define_in := by
  obtain ⟨fd, F1⟩ := F.def_ 31 (d := dd_define_in)
  have F0 : FunD K "define_in" "define_in" (defArgs s_define_in) (defBody s_define_in) (defScope s_define_in) [] [] (He.ga K "define_in") fd := F1
  refine fnA_of F0 sc_define_in (FunD.bindsN F0 fun _ _ _ _ _ _ us hl => match us, hl with | [_, _, _, _], _ => rfl) .nil (fun _ _ => .nil) fun cdv A outer s H E hr => ?_
  have g : Ge (cxOf (L2.CX P w) P w K mg base ["runtime", "function", "signature", "body", "table", "later"] "define_in" (defScope s_define_in) (He.ga K "define_in") cdv A outer s H E) 2 := ⟨rfl, hr, sc_define_in.nd⟩
  have po : PassesOwn (model P w) (A.deeper (envOfC "define_in" (defScope s_define_in) s.heap.objs.size (He.ga K "define_in") cdv)) (envOfC "define_in" (defScope s_define_in) s.heap.objs.size (He.ga K "define_in") cdv) (cxOf (L2.CX P w) P w K mg base ["runtime", "function", "signature", "body", "table", "later"] "define_in" (defScope s_define_in) (He.ga K "define_in") cdv A outer s H E).xe := PassesOwn.leaving
  exact (ss_cons (setv g (se_meth v (c_Runtime F) (mt_Runtime_table F) (d_Runtime_table F) g.hr (sa_cons (se_meth0 v (c_Runtime F) (mt_Runtime_newest F) (d_Runtime_newest F) g.hr) sa_nil)))
  (ss_cons (ss_if (st_w (sw_and (st_cmp (r_in g) (se_tup (sa_cons v (sa_cons v sa_nil))) v) (sw_and1 (st_cmp (r_eq g) (se_ix (r_ix g) v (se_tup (sa_cons v (sa_cons v sa_nil)))) v)))) (ss_one (ss_ret (se_meth0 v (c_Runtime F) (mt_Runtime_newest F) (d_Runtime_newest F) g.hr))) ss_nil)
  (ss_cons (setv g (se_callTy s_dict rfl (n_dict F) bt_dict (sa_cons v sa_nil)))
  (ss_cons (ss_alt (ss_putK (by have := g.hu; omega) v (se_tup (sa_cons v (sa_cons v sa_nil))) v) (ss_alt (ss_putN g.h64 v (se_tup (sa_cons v (sa_cons v sa_nil))) v) (ss_putL v (se_tup (sa_cons v (sa_cons v sa_nil))) v)))
  (ss_one (ss_ret (se_meth v (c_Runtime F) (mt_Runtime_add_world F) (d_Runtime_add_world F) g.hr (sa_cons v sa_nil))))))))
def m_define : MS := sSeq (sExpr (eCall 1 [] M_check_function (aCons (eVar 1) (aNil)))) (sSeq (sExpr (eCall 2 [] M_check_signature (aCons (eVar 0) (aCons (eVar 2) (aNil))))) (sSeq (sExpr (eCall 3 [] M_check_valid (aCons (eVar 0) (aCons (eVar 3) (aCons (eN oLen (aCons (eVar 2) (aNil))) (aNil)))))) (sRet (eCall 4 [] M_define_in (aCons (eVar 0) (aCons (eVar 1) (aCons (eVar 2) (aCons (eVar 3) (aNil)))))))))
def M_define : List D → Sto → Res D := fnM 4 m_define
theorem sc_define : FnScope ["runtime", "function", "signature", "body"] ["runtime", "function", "signature", "body"] (defScope s_define) := ⟨rfl, rfl, rfl, by decide +kernel, rfl, by decide +kernel, by decide +kernel⟩
theorem d_define (F : Fx K w mg) : FnA P w K mg base (He.ga K "define") ["runtime", "function", "signature", "body"] [] 6 M_define := by
  obtain ⟨fd, F1⟩ := F.def_ 32 (d := dd_define)
  have F0 : FunD K "define" "define" (defArgs s_define) (defBody s_define) (defScope s_define) [] [] (He.ga K "define") fd := F1
  refine fnA_of F0 sc_define (FunD.bindsN F0 fun _ _ _ _ _ _ us hl => match us, hl with | [_, _, _, _], _ => rfl) .nil (fun _ _ => .nil) fun cdv A outer s H E hr => ?_
  have g : Ge (cxOf (L2.CX P w) P w K mg base ["runtime", "function", "signature", "body"] "define" (defScope s_define) (He.ga K "define") cdv A outer s H E) 5 := ⟨rfl, hr, sc_define.nd⟩
  have po : PassesOwn (model P w) (A.deeper (envOfC "define" (defScope s_define) s.heap.objs.size (He.ga K "define") cdv)) (envOfC "define" (defScope s_define) s.heap.objs.size (He.ga K "define") cdv) (cxOf (L2.CX P w) P w K mg base ["runtime", "function", "signature", "body"] "define" (defScope s_define) (He.ga K "define") cdv A outer s H E).xe := PassesOwn.leaving
  exact (ss_cons (ss_expr (se_call (d_check_function F) g.hr rfl (g_check_function F) (sa_cons v sa_nil)))
  (ss_cons (ss_expr (se_call (d_check_signature F) g.hr rfl (g_check_signature F) (sa_cons v (sa_cons v sa_nil))))
  (ss_cons (ss_expr (se_call (d_check_valid F) g.hr rfl (g_check_valid F) (sa_cons v (sa_cons v (sa_cons (se_callB s_len rfl (n_len F) bt_len (sa_cons v sa_nil)) sa_nil)))))
  (ss_one (ss_ret (se_call (d_define_in F) g.hr rfl (g_define_in F) (sa_cons v (sa_cons v (sa_cons v (sa_cons v sa_nil))))))))))
def m_methods : MS := sRet (eN oSRT (aCons (eMeth "Runtime" "table" 2 M_Runtime_table (eVar 0) (aCons (eCall 2 [] M_world_of (aCons (eVar 0) (aCons (eVar 1) (aNil)))) (aNil))) (aNil)))
def M_methods : List D → Sto → Res D := fnM 2 m_methods
theorem sc_methods : FnScope ["runtime", "world"] ["runtime", "world"] (defScope s_methods) := ⟨rfl, rfl, rfl, by decide +kernel, rfl, by decide +kernel, by decide +kernel⟩
theorem d_methods (F : Fx K w mg) : FnA P w K mg base (He.ga K "methods") ["runtime", "world"] [.non] 4 M_methods := by
  obtain ⟨fd, F1⟩ := F.def_ 33 (d := dd_methods)
  have F0 : FunD K "methods" "methods" (defArgs s_methods) (defBody s_methods) (defScope s_methods) [] [("world", .non)] (He.ga K "methods") fd := F1
  obtain ⟨ds, r, b⟩ := FunD.binds0 (ps := ["runtime", "world"]) F0 1 (List.cons_ne_nil _ _) rfl fun D doc pm an cdv ct us ks h1 h2 => (match us, ks, h1, h2 with | [_], [_], _, _ => ⟨_, _, _, _, _, _, rfl, rfl, rfl⟩)
  refine fnA_of F0 sc_methods b r (fun R H => .cons (.non) (.nil)) fun cdv A outer s H E hr => ?_
  have g : Ge (cxOf (L2.CX P w) P w K mg base ["runtime", "world"] "methods" (defScope s_methods) (He.ga K "methods") cdv A outer s H E) 3 := ⟨rfl, hr, sc_methods.nd⟩
  have po : PassesOwn (model P w) (A.deeper (envOfC "methods" (defScope s_methods) s.heap.objs.size (He.ga K "methods") cdv)) (envOfC "methods" (defScope s_methods) s.heap.objs.size (He.ga K "methods") cdv) (cxOf (L2.CX P w) P w K mg base ["runtime", "world"] "methods" (defScope s_methods) (He.ga K "methods") cdv A outer s H E).xe := PassesOwn.leaving
  exact (ss_one (ss_ret (se_callB (r_srt g) rfl (n_sorted F) bt_sorted (sa_cons (se_meth v (c_Runtime F) (mt_Runtime_table F) (d_Runtime_table F) g.hr (sa_cons (se_call (d_world_of F) g.hr rfl (g_world_of F) (sa_cons v (sa_cons v sa_nil))) sa_nil)) sa_nil))))
def m_signatures_of : MS := sSeq (sSet 4 (eMeth "Runtime" "table" 2 M_Runtime_table (eVar 0) (aCons (eVar 3) (aNil)))) (sRet (eN oSRT (aCons (eLk (selOf (eVar 4)) (eLc 300 (iANY (eVar 4)) (.tp ((.nm 5) :: (.nm 6) :: [])) (tAnd (tOf (eOp2 oEQ (eVar 5) (eVar 1))) (tOf (eOp2 oEQ (eN oLen (aCons (eVar 6) (aNil))) (eVar 2)))) (eVar 6) [5, 6])) (aNil))))
def M_signatures_of : List D → Sto → Res D := fnM 7 m_signatures_of
theorem sc_signatures_of : FnScope ["runtime", "function", "many", "world", "table", "name", "signature"] ["runtime", "function", "many", "world"] (defScope s_signatures_of) := ⟨rfl, rfl, rfl, by decide +kernel, rfl, by decide +kernel, by decide +kernel⟩
theorem d_signatures_of (F : Fx K w mg) : FnA P w K mg base (He.ga K "signatures_of") ["runtime", "function", "many", "world"] [] 2 M_signatures_of := by
  obtain ⟨fd, F1⟩ := F.def_ 34 (d := dd_signatures_of)
  have F0 : FunD K "signatures_of" "signatures_of" (defArgs s_signatures_of) (defBody s_signatures_of) (defScope s_signatures_of) [] [] (He.ga K "signatures_of") fd := F1
  refine fnA_of F0 sc_signatures_of (FunD.bindsN F0 fun _ _ _ _ _ _ us hl => match us, hl with | [_, _, _, _], _ => rfl) .nil (fun _ _ => .nil) fun cdv A outer s H E hr => ?_
  have g : Ge (cxOf (L2.CX P w) P w K mg base ["runtime", "function", "many", "world", "table", "name", "signature"] "signatures_of" (defScope s_signatures_of) (He.ga K "signatures_of") cdv A outer s H E) 1 := ⟨rfl, hr, sc_signatures_of.nd⟩
  have po : PassesOwn (model P w) (A.deeper (envOfC "signatures_of" (defScope s_signatures_of) s.heap.objs.size (He.ga K "signatures_of") cdv)) (envOfC "signatures_of" (defScope s_signatures_of) s.heap.objs.size (He.ga K "signatures_of") cdv) (cxOf (L2.CX P w) P w K mg base ["runtime", "function", "many", "world", "table", "name", "signature"] "signatures_of" (defScope s_signatures_of) (He.ga K "signatures_of") cdv A outer s H E).xe := PassesOwn.leaving
  exact (ss_cons (setv g (se_meth v (c_Runtime F) (mt_Runtime_table F) (d_Runtime_table F) g.hr (sa_cons v sa_nil)))
  (ss_one (ss_ret (se_callB (r_srt g) rfl (n_sorted F) bt_sorted (sa_cons (se_lk (lcG g (own := [("name", 5), ("signature", 6)]) (i_any v) (by exact blkOk_by (by rfl)) (fun _ _ _ _ _ g => (sg_tup g.hc (sg_cons (tgv g) (sg_cons (tgv g) sg_nil)))) (fun _ _ _ _ _ g => (sts_one (st_w (sw_and (st_cmp (r_eq g) v v) (sw_and1 (st_cmp (r_eq g) (se_callB s_len rfl (n_len F) bt_len (sa_cons v sa_nil)) v)))))) (fun _ _ _ _ _ g => v))) sa_nil)))))
def m_selected : MS := sSeq (sSet 4 (eN oTupOf (aCons (eLc 300 (iANY (eVar 2)) (.nm 8) (tYesM) (eCall 3 [] M_seen (aCons (eVar 0) (aCons (eVar 8) (aCons (eVar 3) (aNil))))) [8]) (aNil)))) (sSeq (sSet 5 (eCall 4 [] M_signatures_of (aCons (eVar 0) (aCons (eVar 1) (aCons (eN oLen (aCons (eVar 4) (aNil))) (aCons (eVar 3) (aNil))))))) (sSeq (sSet 6 (eLc 300 (iANY (eVar 5)) (.nm 7) (tOf (eCall 3 [] M_all_below (aCons (eVar 0) (aCons (eVar 4) (aCons (eVar 7) (aNil)))))) (eVar 7) [7])) (sSeq (sIf (tOf (eOp2 oEQ (eVar 6) (eLst (aNil)))) (sRet (eC (.str "none"))) (sNil)) (sSeq (sFor 300 (iANY (eVar 6)) (.nm 7) (sIf (tOf (eN oAll (aCons (eLc 300 (iANY (eVar 6)) (.nm 9) (tYesM) (eCall 3 [] M_all_below (aCons (eVar 0) (aCons (eVar 7) (aCons (eVar 9) (aNil))))) [9]) (aNil)))) (sRet (eTup (aCons (eVar 7) (aCons (eOp2 oIX (eMeth "Runtime" "table" 2 M_Runtime_table (eVar 0) (aCons (eVar 3) (aNil))) (eTup (aCons (eVar 1) (aCons (eVar 7) (aNil))))) (aNil))))) (sNil))) (sRet (eC (.str "ambiguous")))))))
def M_selected : List D → Sto → Res D := fnM 10 m_selected
theorem sc_selected : FnScope ["runtime", "function", "classes", "world", "exact", "every", "some", "signature", "name", "other"] ["runtime", "function", "classes", "world"] (defScope s_selected) := ⟨rfl, rfl, rfl, by decide +kernel, rfl, by decide +kernel, by decide +kernel⟩
theorem d_selected (F : Fx K w mg) : FnA P w K mg base (He.ga K "selected") ["runtime", "function", "classes", "world"] [] 4 M_selected := by
  obtain ⟨fd, F1⟩ := F.def_ 35 (d := dd_selected)
  have F0 : FunD K "selected" "selected" (defArgs s_selected) (defBody s_selected) (defScope s_selected) [] [] (He.ga K "selected") fd := F1
  refine fnA_of F0 sc_selected (FunD.bindsN F0 fun _ _ _ _ _ _ us hl => match us, hl with | [_, _, _, _], _ => rfl) .nil (fun _ _ => .nil) fun cdv A outer s H E hr => ?_
  have g : Ge (cxOf (L2.CX P w) P w K mg base ["runtime", "function", "classes", "world", "exact", "every", "some", "signature", "name", "other"] "selected" (defScope s_selected) (He.ga K "selected") cdv A outer s H E) 3 := ⟨rfl, hr, sc_selected.nd⟩
  have po : PassesOwn (model P w) (A.deeper (envOfC "selected" (defScope s_selected) s.heap.objs.size (He.ga K "selected") cdv)) (envOfC "selected" (defScope s_selected) s.heap.objs.size (He.ga K "selected") cdv) (cxOf (L2.CX P w) P w K mg base ["runtime", "function", "classes", "world", "exact", "every", "some", "signature", "name", "other"] "selected" (defScope s_selected) (He.ga K "selected") cdv A outer s H E).xe := PassesOwn.leaving
  exact (ss_cons (setv g (se_callTy s_tupOf rfl (n_tuple F) bt_tuple (sa_cons (lcG g (own := [("name", 8)]) (i_any v) (by exact blkOk_by (by rfl)) (fun _ _ _ _ _ g => (tgv g)) (fun _ _ _ _ _ g => sts_nil) (fun _ _ _ _ _ g => (se_call (d_seen F) g.hr rfl (g_seen F) (sa_cons v (sa_cons v (sa_cons v sa_nil)))))) sa_nil)))
  (ss_cons (setv g (se_call (d_signatures_of F) g.hr rfl (g_signatures_of F) (sa_cons v (sa_cons v (sa_cons (se_callB s_len rfl (n_len F) bt_len (sa_cons v sa_nil)) (sa_cons v sa_nil))))))
  (ss_cons (setLcG g (own := [("signature", 7)]) (i_any v) (by exact blkOk_by (by rfl)) (fun _ _ _ _ _ g => (tgv g)) (fun _ _ _ _ _ g => (sts_one (st_val (se_call (d_all_below F) g.hr rfl (g_all_below F) (sa_cons v (sa_cons v (sa_cons v sa_nil))))))) (fun _ _ _ _ _ g => v))
  (ss_cons (ss_if (st_cmp (r_eq g) v (se_lst sa_nil)) (ss_one (ss_ret se_str)) ss_nil)
  (ss_cons (ss_for po g.hc (i_any v) (tgv g) (ss_one (ss_if (st_val (se_callB (s_all g.hc) rfl (n_all F) bt_all (sa_cons (lcG g (own := [("other", 9)]) (i_any v) (by exact blkOk_by (by rfl)) (fun _ _ _ _ _ g => (tgv g)) (fun _ _ _ _ _ g => sts_nil) (fun _ _ _ _ _ g => (se_call (d_all_below F) g.hr rfl (g_all_below F) (sa_cons v (sa_cons v (sa_cons v sa_nil)))))) sa_nil))) (ss_one (ss_ret (se_tup (sa_cons v (sa_cons (se_ix (r_ix g) (se_meth v (c_Runtime F) (mt_Runtime_table F) (d_Runtime_table F) g.hr (sa_cons v sa_nil)) (se_tup (sa_cons v (sa_cons v sa_nil)))) sa_nil))))) ss_nil)))
  (ss_one (ss_ret se_str)))))))
def m_selected_methods : MS := sSeq (sSet 4 (eN oTupOf (aCons (eLc 300 (iANY (eVar 2)) (.nm 8) (tYesM) (eCall 3 [] M_seen (aCons (eVar 0) (aCons (eVar 8) (aCons (eVar 3) (aNil))))) [8]) (aNil)))) (sSeq (sSet 5 (eCall 4 [] M_signatures_of (aCons (eVar 0) (aCons (eVar 1) (aCons (eN oLen (aCons (eVar 4) (aNil))) (aCons (eVar 3) (aNil))))))) (sSeq (sSet 6 (eLc 300 (iANY (eVar 5)) (.nm 7) (tOf (eCall 3 [] M_all_below (aCons (eVar 0) (aCons (eVar 4) (aCons (eVar 7) (aNil)))))) (eVar 7) [7])) (sSeq (sIf (tOf (eOp2 oEQ (eVar 6) (eLst (aNil)))) (sRet (eC (.str "none"))) (sNil)) (sSeq (sFor 300 (iANY (eVar 6)) (.nm 7) (sIf (tOf (eN oAll (aCons (eLc 300 (iANY (eVar 6)) (.nm 9) (tYesM) (eCall 3 [] M_all_below (aCons (eVar 0) (aCons (eVar 7) (aCons (eVar 9) (aNil))))) [9]) (aNil)))) (sRet (eTup (aCons (eVar 7) (aCons (eOp2 oIX (eMeth "Runtime" "table" 2 M_Runtime_table (eVar 0) (aCons (eVar 3) (aNil))) (eTup (aCons (eVar 1) (aCons (eVar 7) (aNil))))) (aNil))))) (sNil))) (sRet (eC (.str "ambiguous")))))))
def M_selected_methods : List D → Sto → Res D := fnM 10 m_selected_methods
theorem sc_selected_methods : FnScope ["runtime", "function", "classes", "world", "exact", "every", "some", "signature", "name", "other"] ["runtime", "function", "classes", "world"] (defScope s_selected_methods) := ⟨rfl, rfl, rfl, by decide +kernel, rfl, by decide +kernel, by decide +kernel⟩
theorem d_selected_methods (F : Fx K w mg) : FnA P w K mg base (He.ga K "selected_methods") ["runtime", "function", "classes", "world"] [] 4 M_selected_methods := by
  obtain ⟨fd, F1⟩ := F.def_ 36 (d := dd_selected_methods)
  have F0 : FunD K "selected" "selected" (defArgs s_selected_methods) (defBody s_selected_methods) (defScope s_selected_methods) [] [] (He.ga K "selected_methods") fd := F1
  refine fnA_of F0 sc_selected_methods (FunD.bindsN F0 fun _ _ _ _ _ _ us hl => match us, hl with | [_, _, _, _], _ => rfl) .nil (fun _ _ => .nil) fun cdv A outer s H E hr => ?_
  have g : Ge (cxOf (L2.CX P w) P w K mg base ["runtime", "function", "classes", "world", "exact", "every", "some", "signature", "name", "other"] "selected" (defScope s_selected_methods) (He.ga K "selected_methods") cdv A outer s H E) 3 := ⟨rfl, hr, sc_selected_methods.nd⟩
  have po : PassesOwn (model P w) (A.deeper (envOfC "selected" (defScope s_selected_methods) s.heap.objs.size (He.ga K "selected_methods") cdv)) (envOfC "selected" (defScope s_selected_methods) s.heap.objs.size (He.ga K "selected_methods") cdv) (cxOf (L2.CX P w) P w K mg base ["runtime", "function", "classes", "world", "exact", "every", "some", "signature", "name", "other"] "selected" (defScope s_selected_methods) (He.ga K "selected_methods") cdv A outer s H E).xe := PassesOwn.leaving
  exact (ss_cons (setv g (se_callTy s_tupOf rfl (n_tuple F) bt_tuple (sa_cons (lcG g (own := [("name", 8)]) (i_any v) (by exact blkOk_by (by rfl)) (fun _ _ _ _ _ g => (tgv g)) (fun _ _ _ _ _ g => sts_nil) (fun _ _ _ _ _ g => (se_call (d_seen F) g.hr rfl (g_seen F) (sa_cons v (sa_cons v (sa_cons v sa_nil)))))) sa_nil)))
  (ss_cons (setv g (se_call (d_signatures_of F) g.hr rfl (g_signatures_of F) (sa_cons v (sa_cons v (sa_cons (se_callB s_len rfl (n_len F) bt_len (sa_cons v sa_nil)) (sa_cons v sa_nil))))))
  (ss_cons (setLcG g (own := [("signature", 7)]) (i_any v) (by exact blkOk_by (by rfl)) (fun _ _ _ _ _ g => (tgv g)) (fun _ _ _ _ _ g => (sts_one (st_val (se_call (d_all_below F) g.hr rfl (g_all_below F) (sa_cons v (sa_cons v (sa_cons v sa_nil))))))) (fun _ _ _ _ _ g => v))
  (ss_cons (ss_if (st_cmp (r_eq g) v (se_lst sa_nil)) (ss_one (ss_ret se_str)) ss_nil)
  (ss_cons (ss_for po g.hc (i_any v) (tgv g) (ss_one (ss_if (st_val (se_callB (s_all g.hc) rfl (n_all F) bt_all (sa_cons (lcG g (own := [("other", 9)]) (i_any v) (by exact blkOk_by (by rfl)) (fun _ _ _ _ _ g => (tgv g)) (fun _ _ _ _ _ g => sts_nil) (fun _ _ _ _ _ g => (se_call (d_all_below F) g.hr rfl (g_all_below F) (sa_cons v (sa_cons v (sa_cons v sa_nil)))))) sa_nil))) (ss_one (ss_ret (se_tup (sa_cons v (sa_cons (se_ix (r_ix g) (se_meth v (c_Runtime F) (mt_Runtime_table F) (d_Runtime_table F) g.hr (sa_cons v sa_nil)) (se_tup (sa_cons v (sa_cons v sa_nil)))) sa_nil))))) ss_nil)))
  (ss_one (ss_ret se_str)))))))
def m_is_value : MS := sRet (eOr (eCall 1 [] M_is_integer (aCons (eVar 0) (aNil))) (eN (oIsi tabI) (aCons (eVar 0) (aCons (eC (.gl "Thing")) (aNil)))))
def M_is_value : List D → Sto → Res D := fnM 1 m_is_value
theorem sc_is_value : FnScope ["thing"] ["thing"] (defScope s_is_value) := ⟨rfl, rfl, rfl, by decide +kernel, rfl, by decide +kernel, by decide +kernel⟩
theorem d_is_value (F : Fx K w mg) : FnA P w K mg base (He.ga K "is_value") ["thing"] [] 2 M_is_value := by
  obtain ⟨fd, F1⟩ := F.def_ 37 (d := dd_is_value)
  have F0 : FunD K "is_value" "is_value" (defArgs s_is_value) (defBody s_is_value) (defScope s_is_value) [] [] (He.ga K "is_value") fd := F1
  refine fnA_of F0 sc_is_value (FunD.bindsN F0 fun _ _ _ _ _ _ us hl => match us, hl with | [_], _ => rfl) .nil (fun _ _ => .nil) fun cdv A outer s H E hr => ?_
  have g : Ge (cxOf (L2.CX P w) P w K mg base ["thing"] "is_value" (defScope s_is_value) (He.ga K "is_value") cdv A outer s H E) 1 := ⟨rfl, hr, sc_is_value.nd⟩
  have po : PassesOwn (model P w) (A.deeper (envOfC "is_value" (defScope s_is_value) s.heap.objs.size (He.ga K "is_value") cdv)) (envOfC "is_value" (defScope s_is_value) s.heap.objs.size (He.ga K "is_value") cdv) (cxOf (L2.CX P w) P w K mg base ["thing"] "is_value" (defScope s_is_value) (He.ga K "is_value") cdv A outer s H E).xe := PassesOwn.leaving
  exact (ss_one (ss_ret (se_or (se_call (d_is_integer F) g.hr rfl (g_is_integer F) (sa_cons v sa_nil)) (se_one (se_callB (s_isi F.isi) rfl (n_isinstance F) bt_isinstance (sa_cons v (sa_cons (se_gl rfl (g_Thing F)) sa_nil)))))))
def m_class_of : MS := sRet (eIf (tOf (eN (oIsi tabI) (aCons (eVar 0) (aCons (eC (.gl "Thing")) (aNil))))) (eFld cs_of "of" (eVar 0)) (eC (.str "int")))
def M_class_of : List D → Sto → Res D := fnM 1 m_class_of
theorem sc_class_of : FnScope ["value"] ["value"] (defScope s_class_of) := ⟨rfl, rfl, rfl, by decide +kernel, rfl, by decide +kernel, by decide +kernel⟩
theorem d_class_of (F : Fx K w mg) : FnA P w K mg base (He.ga K "class_of") ["value"] [] 1 M_class_of := by
  obtain ⟨fd, F1⟩ := F.def_ 38 (d := dd_class_of)
  have F0 : FunD K "class_of" "class_of" (defArgs s_class_of) (defBody s_class_of) (defScope s_class_of) [] [] (He.ga K "class_of") fd := F1
  refine fnA_of F0 sc_class_of (FunD.bindsN F0 fun _ _ _ _ _ _ us hl => match us, hl with | [_], _ => rfl) .nil (fun _ _ => .nil) fun cdv A outer s H E hr => ?_
  have g : Ge (cxOf (L2.CX P w) P w K mg base ["value"] "class_of" (defScope s_class_of) (He.ga K "class_of") cdv A outer s H E) 0 := ⟨rfl, hr, sc_class_of.nd⟩
  have po : PassesOwn (model P w) (A.deeper (envOfC "class_of" (defScope s_class_of) s.heap.objs.size (He.ga K "class_of") cdv)) (envOfC "class_of" (defScope s_class_of) s.heap.objs.size (He.ga K "class_of") cdv) (cxOf (L2.CX P w) P w K mg base ["value"] "class_of" (defScope s_class_of) (He.ga K "class_of") cdv A outer s H E).xe := PassesOwn.leaving
  exact (ss_one (ss_ret (se_ifx (st_val (se_callB (s_isi F.isi) rfl (n_isinstance F) bt_isinstance (sa_cons v (sa_cons (se_gl rfl (g_Thing F)) sa_nil)))) (se_fld v (f_of F)) se_str)))
def m_seen_of : MS := sRet (eCall 3 [] M_seen (aCons (eVar 0) (aCons (eCall 1 [] M_class_of (aCons (eVar 1) (aNil))) (aCons (eVar 2) (aNil)))))
def M_seen_of : List D → Sto → Res D := fnM 3 m_seen_of
theorem sc_seen_of : FnScope ["runtime", "value", "world"] ["runtime", "value", "world"] (defScope s_seen_of) := ⟨rfl, rfl, rfl, by decide +kernel, rfl, by decide +kernel, by decide +kernel⟩
theorem d_seen_of (F : Fx K w mg) : FnA P w K mg base (He.ga K "seen_of") ["runtime", "value", "world"] [] 3 M_seen_of := by
  obtain ⟨fd, F1⟩ := F.def_ 39 (d := dd_seen_of)
  have F0 : FunD K "seen_of" "seen_of" (defArgs s_seen_of) (defBody s_seen_of) (defScope s_seen_of) [] [] (He.ga K "seen_of") fd := F1
  refine fnA_of F0 sc_seen_of (FunD.bindsN F0 fun _ _ _ _ _ _ us hl => match us, hl with | [_, _, _], _ => rfl) .nil (fun _ _ => .nil) fun cdv A outer s H E hr => ?_
  have g : Ge (cxOf (L2.CX P w) P w K mg base ["runtime", "value", "world"] "seen_of" (defScope s_seen_of) (He.ga K "seen_of") cdv A outer s H E) 2 := ⟨rfl, hr, sc_seen_of.nd⟩
  have po : PassesOwn (model P w) (A.deeper (envOfC "seen_of" (defScope s_seen_of) s.heap.objs.size (He.ga K "seen_of") cdv)) (envOfC "seen_of" (defScope s_seen_of) s.heap.objs.size (He.ga K "seen_of") cdv) (cxOf (L2.CX P w) P w K mg base ["runtime", "value", "world"] "seen_of" (defScope s_seen_of) (He.ga K "seen_of") cdv A outer s H E).xe := PassesOwn.leaving
  exact (ss_one (ss_ret (se_call (d_seen F) g.hr rfl (g_seen F) (sa_cons v (sa_cons (se_call (d_class_of F) g.hr rfl (g_class_of F) (sa_cons v sa_nil)) (sa_cons v sa_nil))))))
def m_Follower_entered : MS := sRet (eC .non)
def M_Follower_entered : List D → Sto → Res D := fnM 4 m_Follower_entered
theorem sc_Follower_entered : FnScope ["self", "function", "classes", "world"] ["self", "function", "classes", "world"] (defScope s_Follower_entered) := ⟨rfl, rfl, rfl, by decide +kernel, rfl, by decide +kernel, by decide +kernel⟩
theorem d_Follower_entered (F : Fx K w mg) : FnA P w K mg base (He.ma K (He.ga K "Follower") "entered") ["self", "function", "classes", "world"] [] 1 M_Follower_entered := by
  obtain ⟨fd, F1⟩ := F.def_ 40 (d := dd_Follower_entered)
  have F0 : FunD K "entered" "Follower.entered" (defArgs s_Follower_entered) (defBody s_Follower_entered) (defScope s_Follower_entered) [] [] (He.ma K (He.ga K "Follower") "entered") fd := F1
  refine fnA_of F0 sc_Follower_entered (FunD.bindsN F0 fun _ _ _ _ _ _ us hl => match us, hl with | [_, _, _, _], _ => rfl) .nil (fun _ _ => .nil) fun cdv A outer s H E hr => ?_
  have g : Ge (cxOf (L2.CX P w) P w K mg base ["self", "function", "classes", "world"] "Follower.entered" (defScope s_Follower_entered) (He.ma K (He.ga K "Follower") "entered") cdv A outer s H E) 0 := ⟨rfl, hr, sc_Follower_entered.nd⟩
  have po : PassesOwn (model P w) (A.deeper (envOfC "Follower.entered" (defScope s_Follower_entered) s.heap.objs.size (He.ma K (He.ga K "Follower") "entered") cdv)) (envOfC "Follower.entered" (defScope s_Follower_entered) s.heap.objs.size (He.ma K (He.ga K "Follower") "entered") cdv) (cxOf (L2.CX P w) P w K mg base ["self", "function", "classes", "world"] "Follower.entered" (defScope s_Follower_entered) (He.ma K (He.ga K "Follower") "entered") cdv A outer s H E).xe := PassesOwn.leaving
  exact (ss_one (ss_ret se_non))
def m_Scope___init__ : MS := sSeq (sFld cs_given "given" (eVar 0) (eVar 1)) (sSeq (sFld cs_names "names" (eVar 0) (eVar 2)) (sSeq (sFld cs_world "world" (eVar 0) (eVar 3)) (sFld cs_entry "entry" (eVar 0) (eVar 4))))
def M_Scope___init__ : List D → Sto → Res D := fnM 5 m_Scope___init__
theorem sc_Scope___init__ : FnScope ["self", "given", "names", "world", "entry"] ["self", "given", "names", "world", "entry"] (defScope s_Scope___init__) := ⟨rfl, rfl, rfl, by decide +kernel, rfl, by decide +kernel, by decide +kernel⟩
theorem d_Scope___init__ (F : Fx K w mg) : FnA P w K mg base (He.ma K (He.ga K "Scope") "__init__") ["self", "given", "names", "world", "entry"] [] 1 M_Scope___init__ := by
  obtain ⟨fd, F1⟩ := F.def_ 41 (d := dd_Scope___init__)
  have F0 : FunD K "__init__" "Scope.__init__" (defArgs s_Scope___init__) (defBody s_Scope___init__) (defScope s_Scope___init__) [] [] (He.ma K (He.ga K "Scope") "__init__") fd := F1
  refine fnA_of F0 sc_Scope___init__ (FunD.bindsN F0 fun _ _ _ _ _ _ us hl => match us, hl with | [_, _, _, _, _], _ => rfl) .nil (fun _ _ => .nil) fun cdv A outer s H E hr => ?_
  have g : Ge (cxOf (L2.CX P w) P w K mg base ["self", "given", "names", "world", "entry"] "Scope.__init__" (defScope s_Scope___init__) (He.ma K (He.ga K "Scope") "__init__") cdv A outer s H E) 0 := ⟨rfl, hr, sc_Scope___init__.nd⟩
  have po : PassesOwn (model P w) (A.deeper (envOfC "Scope.__init__" (defScope s_Scope___init__) s.heap.objs.size (He.ma K (He.ga K "Scope") "__init__") cdv)) (envOfC "Scope.__init__" (defScope s_Scope___init__) s.heap.objs.size (He.ma K (He.ga K "Scope") "__init__") cdv) (cxOf (L2.CX P w) P w K mg base ["self", "given", "names", "world", "entry"] "Scope.__init__" (defScope s_Scope___init__) (He.ma K (He.ga K "Scope") "__init__") cdv A outer s H E).xe := PassesOwn.leaving
  exact (ss_cons (ss_fld v v (f_given F))
  (ss_cons (ss_fld v v (f_names F))
  (ss_cons (ss_fld v v (f_world F))
  (ss_one (ss_fld v v (f_entry F))))))
def m_Frame___init__ : MS := sSeq (sFld cs_piece "piece" (eVar 0) (eVar 1)) (sSeq (sFld cs_path "path" (eVar 0) (eVar 2)) (sSeq (sFld cs_scope "scope" (eVar 0) (eVar 3)) (sFld cs_row "row" (eVar 0) (eLst (aNil)))))
def M_Frame___init__ : List D → Sto → Res D := fnM 4 m_Frame___init__
theorem sc_Frame___init__ : FnScope ["self", "piece", "path", "scope"] ["self", "piece", "path", "scope"] (defScope s_Frame___init__) := ⟨rfl, rfl, rfl, by decide +kernel, rfl, by decide +kernel, by decide +kernel⟩
theorem d_Frame___init__ (F : Fx K w mg) : FnA P w K mg base (He.ma K (He.ga K "Frame") "__init__") ["self", "piece", "path", "scope"] [] 1 M_Frame___init__ := by
  obtain ⟨fd, F1⟩ := F.def_ 42 (d := dd_Frame___init__)
  have F0 : FunD K "__init__" "Frame.__init__" (defArgs s_Frame___init__) (defBody s_Frame___init__) (defScope s_Frame___init__) [] [] (He.ma K (He.ga K "Frame") "__init__") fd := F1
  refine fnA_of F0 sc_Frame___init__ (FunD.bindsN F0 fun _ _ _ _ _ _ us hl => match us, hl with | [_, _, _, _], _ => rfl) .nil (fun _ _ => .nil) fun cdv A outer s H E hr => ?_
  have g : Ge (cxOf (L2.CX P w) P w K mg base ["self", "piece", "path", "scope"] "Frame.__init__" (defScope s_Frame___init__) (He.ma K (He.ga K "Frame") "__init__") cdv A outer s H E) 0 := ⟨rfl, hr, sc_Frame___init__.nd⟩
  have po : PassesOwn (model P w) (A.deeper (envOfC "Frame.__init__" (defScope s_Frame___init__) s.heap.objs.size (He.ma K (He.ga K "Frame") "__init__") cdv)) (envOfC "Frame.__init__" (defScope s_Frame___init__) s.heap.objs.size (He.ma K (He.ga K "Frame") "__init__") cdv) (cxOf (L2.CX P w) P w K mg base ["self", "piece", "path", "scope"] "Frame.__init__" (defScope s_Frame___init__) (He.ma K (He.ga K "Frame") "__init__") cdv A outer s H E).xe := PassesOwn.leaving
  exact (ss_cons (ss_fld v v (f_piece F))
  (ss_cons (ss_fld v v (f_path F))
  (ss_cons (ss_fld v v (f_scope F))
  (ss_one (ss_fld v (se_lst sa_nil) (f_row F))))))
def m_Frame_next_at : MS := sSeq (sPar 1 2 (aCons (eOp2 oIX (eFld cs_piece "piece" (eVar 0)) (eC (.int 0))) (aCons (eN oLen (aCons (eFld cs_row "row" (eVar 0)) (aNil))) (aNil)))) (sSeq (sIf (tOf (eOp2 oEQ (eVar 1) (eC (.str "if")))) (sNever) (sNil)) (sSeq (sIf (tOf (eOp2 oEQ (eVar 1) (eC (.str "let")))) (sRet (eOp2 oIX (eLst (aCons (eC (.int 2)) (aCons (eC (.int 3)) (aCons (eC .non) (aNil))))) (eVar 2))) (sNil)) (sSeq (sIf (tOf (eOp2 oIN (eVar 1) (eC (.tup [.str "add", .str "less"])))) (sRet (eOp2 oIX (eLst (aCons (eC (.int 1)) (aCons (eC (.int 2)) (aCons (eC .non) (aNil))))) (eVar 2))) (sNil)) (sSeq (sIf (tOf (eOp2 oIN (eVar 1) (eTup (aCons (eC (.str "field")) (aCons (eC (.str "is")) (aNil)))))) (sRet (eOp2 oIX (eLst (aCons (eC (.int 1)) (aCons (eC .non) (aNil)))) (eVar 2))) (sNil)) (sRet (eIf (tOf (eOp2 oLt (eOp2 oPlus (eVar 2) (eC (.int 2))) (eN oLen (aCons (eFld cs_piece "piece" (eVar 0)) (aNil))))) (eOp2 oPlus (eVar 2) (eC (.int 2))) (eC .non)))))))
def M_Frame_next_at : List D → Sto → Res D := fnM 3 m_Frame_next_at
theorem sc_Frame_next_at : FnScope ["self", "word", "many"] ["self"] (defScope s_Frame_next_at) := ⟨rfl, rfl, rfl, by decide +kernel, rfl, by decide +kernel, by decide +kernel⟩
theorem d_Frame_next_at (F : Fx K w mg) : FnA P w K mg base (He.ma K (He.ga K "Frame") "next_at") ["self"] [] 1 M_Frame_next_at := by
  obtain ⟨fd, F1⟩ := F.def_ 43 (d := dd_Frame_next_at)
  have F0 : FunD K "next_at" "Frame.next_at" (defArgs s_Frame_next_at) (defBody s_Frame_next_at) (defScope s_Frame_next_at) [] [] (He.ma K (He.ga K "Frame") "next_at") fd := F1
  refine fnA_of F0 sc_Frame_next_at (FunD.bindsN F0 fun _ _ _ _ _ _ us hl => match us, hl with | [_], _ => rfl) .nil (fun _ _ => .nil) fun cdv A outer s H E hr => ?_
  have g : Ge (cxOf (L2.CX P w) P w K mg base ["self", "word", "many"] "Frame.next_at" (defScope s_Frame_next_at) (He.ma K (He.ga K "Frame") "next_at") cdv A outer s H E) 0 := ⟨rfl, hr, sc_Frame_next_at.nd⟩
  have po : PassesOwn (model P w) (A.deeper (envOfC "Frame.next_at" (defScope s_Frame_next_at) s.heap.objs.size (He.ma K (He.ga K "Frame") "next_at") cdv)) (envOfC "Frame.next_at" (defScope s_Frame_next_at) s.heap.objs.size (He.ma K (He.ga K "Frame") "next_at") cdv) (cxOf (L2.CX P w) P w K mg base ["self", "word", "many"] "Frame.next_at" (defScope s_Frame_next_at) (He.ma K (He.ga K "Frame") "next_at") cdv A outer s H E).xe := PassesOwn.leaving
  exact (ss_cons (ss_par g.hc g.nd rfl rfl (by decide) rfl rfl (sa_cons (se_ix (r_ix g) (se_fld v (f_piece F)) se_int) (sa_cons (se_callB s_len rfl (n_len F) bt_len (sa_cons (se_fld v (f_row F)) sa_nil)) sa_nil)) rfl)
  (ss_cons (ss_if (st_cmp (r_eq g) v se_str) (ss_one ss_never) ss_nil)
  (ss_cons (ss_if (st_cmp (r_eq g) v se_str) (ss_one (ss_ret (se_ix (r_ix g) (se_lst (sa_cons se_int (sa_cons se_int (sa_cons se_non sa_nil)))) v))) ss_nil)
  (ss_cons (ss_if (st_cmp (r_in g) v (se_glD rfl (k_PAIRS F))) (ss_one (ss_ret (se_ix (r_ix g) (se_lst (sa_cons se_int (sa_cons se_int (sa_cons se_non sa_nil)))) v))) ss_nil)
  (ss_cons (ss_if (st_cmp (r_in g) v (se_tup (sa_cons se_str (sa_cons se_str sa_nil)))) (ss_one (ss_ret (se_ix (r_ix g) (se_lst (sa_cons se_int (sa_cons se_non sa_nil))) v))) ss_nil)
  (ss_one (ss_ret (se_ifx (st_cmp s_lt (se_bin r_plus v se_int) (se_callB s_len rfl (n_len F) bt_len (sa_cons (se_fld v (f_piece F)) sa_nil))) (se_bin r_plus v se_int) se_non))))))))
def m_Frame_scope_at : MS := sSeq (sIf (tAnd (tOf (eOp2 oEQ (eOp2 oIX (eFld cs_piece "piece" (eVar 0)) (eC (.int 0))) (eC (.str "let")))) (tOf (eOp2 oEQ (eVar 1) (eC (.int 3))))) (sNever) (sNil)) (sRet (eFld cs_scope "scope" (eVar 0)))
def M_Frame_scope_at : List D → Sto → Res D := fnM 2 m_Frame_scope_at
theorem sc_Frame_scope_at : FnScope ["self", "at"] ["self", "at"] (defScope s_Frame_scope_at) := ⟨rfl, rfl, rfl, by decide +kernel, rfl, by decide +kernel, by decide +kernel⟩
theorem d_Frame_scope_at (F : Fx K w mg) : FnA P w K mg base (He.ma K (He.ga K "Frame") "scope_at") ["self", "at"] [] 1 M_Frame_scope_at := by
  obtain ⟨fd, F1⟩ := F.def_ 44 (d := dd_Frame_scope_at)
  have F0 : FunD K "scope_at" "Frame.scope_at" (defArgs s_Frame_scope_at) (defBody s_Frame_scope_at) (defScope s_Frame_scope_at) [] [] (He.ma K (He.ga K "Frame") "scope_at") fd := F1
  refine fnA_of F0 sc_Frame_scope_at (FunD.bindsN F0 fun _ _ _ _ _ _ us hl => match us, hl with | [_, _], _ => rfl) .nil (fun _ _ => .nil) fun cdv A outer s H E hr => ?_
  have g : Ge (cxOf (L2.CX P w) P w K mg base ["self", "at"] "Frame.scope_at" (defScope s_Frame_scope_at) (He.ma K (He.ga K "Frame") "scope_at") cdv A outer s H E) 0 := ⟨rfl, hr, sc_Frame_scope_at.nd⟩
  have po : PassesOwn (model P w) (A.deeper (envOfC "Frame.scope_at" (defScope s_Frame_scope_at) s.heap.objs.size (He.ma K (He.ga K "Frame") "scope_at") cdv)) (envOfC "Frame.scope_at" (defScope s_Frame_scope_at) s.heap.objs.size (He.ma K (He.ga K "Frame") "scope_at") cdv) (cxOf (L2.CX P w) P w K mg base ["self", "at"] "Frame.scope_at" (defScope s_Frame_scope_at) (He.ma K (He.ga K "Frame") "scope_at") cdv A outer s H E).xe := PassesOwn.leaving
  exact (ss_cons (ss_if (st_w (sw_and (st_cmp (r_eq g) (se_ix (r_ix g) (se_fld v (f_piece F)) se_int) se_str) (sw_and1 (st_cmp (r_eq g) v se_int)))) (ss_one ss_never) ss_nil)
  (ss_one (ss_ret (se_fld v (f_scope F)))))
def m_raise_again : MS := sSeq (sIf (tOf (eN (oIsi tabI) (aCons (eVar 0) (aCons (eC (.gl "NoMethod")) (aNil))))) (sNever) (sNil)) (sSeq (sIf (tOf (eN (oIsi tabI) (aCons (eVar 0) (aCons (eC (.gl "Ambiguous")) (aNil))))) (sNever) (sNil)) (sSeq (sIf (tOf (eN (oIsi tabI) (aCons (eVar 0) (aCons (eC (.gl "NoField")) (aNil))))) (sNever) (sNil)) (sSeq (sIf (tOf (eN (oIsi tabI) (aCons (eVar 0) (aCons (eC (.gl "NoFit")) (aNil))))) (sNever) (sNil)) (sSeq (sIf (tOf (eN (oIsi tabI) (aCons (eVar 0) (aCons (eC (.gl "NotInt")) (aNil))))) (sNever) (sNil)) (sSeq (sIf (tOf (eN (oIsi tabI) (aCons (eVar 0) (aCons (eC (.gl "TooDeep")) (aNil))))) (sNever) (sNil)) (sIf (tOf (eN (oIsi tabI) (aCons (eVar 0) (aCons (eC (.gl "TooLong")) (aNil))))) (sNever) (sNil)))))))
def M_raise_again : List D → Sto → Res D := fnM 1 m_raise_again
theorem sc_raise_again : FnScope ["error"] ["error"] (defScope s_raise_again) := ⟨rfl, rfl, rfl, by decide +kernel, rfl, by decide +kernel, by decide +kernel⟩
theorem d_raise_again (F : Fx K w mg) : FnA P w K mg base (He.ga K "raise_again") ["error"] [] 1 M_raise_again := by
  obtain ⟨fd, F1⟩ := F.def_ 45 (d := dd_raise_again)
  have F0 : FunD K "raise_again" "raise_again" (defArgs s_raise_again) (defBody s_raise_again) (defScope s_raise_again) [] [] (He.ga K "raise_again") fd := F1
  refine fnA_of F0 sc_raise_again (FunD.bindsN F0 fun _ _ _ _ _ _ us hl => match us, hl with | [_], _ => rfl) .nil (fun _ _ => .nil) fun cdv A outer s H E hr => ?_
  have g : Ge (cxOf (L2.CX P w) P w K mg base ["error"] "raise_again" (defScope s_raise_again) (He.ga K "raise_again") cdv A outer s H E) 0 := ⟨rfl, hr, sc_raise_again.nd⟩
  have po : PassesOwn (model P w) (A.deeper (envOfC "raise_again" (defScope s_raise_again) s.heap.objs.size (He.ga K "raise_again") cdv)) (envOfC "raise_again" (defScope s_raise_again) s.heap.objs.size (He.ga K "raise_again") cdv) (cxOf (L2.CX P w) P w K mg base ["error"] "raise_again" (defScope s_raise_again) (He.ga K "raise_again") cdv A outer s H E).xe := PassesOwn.leaving
  exact (ss_cons (ss_if (st_val (se_callB (s_isi F.isi) rfl (n_isinstance F) bt_isinstance (sa_cons v (sa_cons (se_gl rfl (g_NoMethod F)) sa_nil)))) (ss_one ss_never) ss_nil)
  (ss_cons (ss_if (st_val (se_callB (s_isi F.isi) rfl (n_isinstance F) bt_isinstance (sa_cons v (sa_cons (se_gl rfl (g_Ambiguous F)) sa_nil)))) (ss_one ss_never) ss_nil)
  (ss_cons (ss_if (st_val (se_callB (s_isi F.isi) rfl (n_isinstance F) bt_isinstance (sa_cons v (sa_cons (se_gl rfl (g_NoField F)) sa_nil)))) (ss_one ss_never) ss_nil)
  (ss_cons (ss_if (st_val (se_callB (s_isi F.isi) rfl (n_isinstance F) bt_isinstance (sa_cons v (sa_cons (se_gl rfl (g_NoFit F)) sa_nil)))) (ss_one ss_never) ss_nil)
  (ss_cons (ss_if (st_val (se_callB (s_isi F.isi) rfl (n_isinstance F) bt_isinstance (sa_cons v (sa_cons (se_gl rfl (g_NotInt F)) sa_nil)))) (ss_one ss_never) ss_nil)
  (ss_cons (ss_if (st_val (se_callB (s_isi F.isi) rfl (n_isinstance F) bt_isinstance (sa_cons v (sa_cons (se_gl rfl (g_TooDeep F)) sa_nil)))) (ss_one ss_never) ss_nil)
  (ss_one (ss_if (st_val (se_callB (s_isi F.isi) rfl (n_isinstance F) bt_isinstance (sa_cons v (sa_cons (se_gl rfl (g_TooLong F)) sa_nil)))) (ss_one ss_never) ss_nil))))))))
def m_Machine___init__ : MS := sSeq (sFld cs_runtime "runtime" (eVar 0) (eVar 1)) (sSeq (sFld cs_most "most" (eVar 0) (eVar 2)) (sSeq (sFld cs_follower "follower" (eVar 0) (eVar 3)) (sSeq (sFld cs_spent "spent" (eVar 0) (eC (.int 0))) (sSeq (sFld cs_pending "pending" (eVar 0) (eC .non)) (sSeq (sFld cs_frames "frames" (eVar 0) (eLst (aNil))) (sSeq (sFld cs_value "value" (eVar 0) (eC .non)) (sSeq (sFld cs_error "error" (eVar 0) (eC .non)) (sFld cs_has_ended "has_ended" (eVar 0) (eC (.bl false))))))))))
def M_Machine___init__ : List D → Sto → Res D := fnM 4 m_Machine___init__
theorem sc_Machine___init__ : FnScope ["self", "runtime", "most", "follower"] ["self", "runtime", "most", "follower"] (defScope s_Machine___init__) := ⟨rfl, rfl, rfl, by decide +kernel, rfl, by decide +kernel, by decide +kernel⟩
theorem d_Machine___init__ (F : Fx K w mg) : FnA P w K mg base (He.ma K (He.ga K "Machine") "__init__") ["self", "runtime", "most", "follower"] [] 1 M_Machine___init__ := by
  obtain ⟨fd, F1⟩ := F.def_ 46 (d := dd_Machine___init__)
  have F0 : FunD K "__init__" "Machine.__init__" (defArgs s_Machine___init__) (defBody s_Machine___init__) (defScope s_Machine___init__) [] [] (He.ma K (He.ga K "Machine") "__init__") fd := F1
  refine fnA_of F0 sc_Machine___init__ (FunD.bindsN F0 fun _ _ _ _ _ _ us hl => match us, hl with | [_, _, _, _], _ => rfl) .nil (fun _ _ => .nil) fun cdv A outer s H E hr => ?_
  have g : Ge (cxOf (L2.CX P w) P w K mg base ["self", "runtime", "most", "follower"] "Machine.__init__" (defScope s_Machine___init__) (He.ma K (He.ga K "Machine") "__init__") cdv A outer s H E) 0 := ⟨rfl, hr, sc_Machine___init__.nd⟩
  have po : PassesOwn (model P w) (A.deeper (envOfC "Machine.__init__" (defScope s_Machine___init__) s.heap.objs.size (He.ma K (He.ga K "Machine") "__init__") cdv)) (envOfC "Machine.__init__" (defScope s_Machine___init__) s.heap.objs.size (He.ma K (He.ga K "Machine") "__init__") cdv) (cxOf (L2.CX P w) P w K mg base ["self", "runtime", "most", "follower"] "Machine.__init__" (defScope s_Machine___init__) (He.ma K (He.ga K "Machine") "__init__") cdv A outer s H E).xe := PassesOwn.leaving
  exact (ss_cons (ss_fld v v (f_runtime F))
  (ss_cons (ss_fld v v (f_most F))
  (ss_cons (ss_fld v v (f_follower F))
  (ss_cons (ss_fld v se_int (f_spent F))
  (ss_cons (ss_fld v se_non (f_pending F))
  (ss_cons (ss_fld v (se_lst sa_nil) (f_frames F))
  (ss_cons (ss_fld v se_non (f_value F))
  (ss_cons (ss_fld v se_non (f_error F))
  (ss_one (ss_fld v se_bl (f_has_ended F)))))))))))
def m_Machine_leaf : MS := sSeq (sIf (tOf (eOp2 oEQ (eOp2 oIX (eVar 1) (eC (.int 0))) (eC (.str "define")))) (sSeq (sExpr (eCall 4 [] M_define_in (aCons (eFld cs_runtime "runtime" (eVar 0)) (aCons (eOp2 oIX (eVar 1) (eC (.int 1))) (aCons (eOp2 oIX (eVar 1) (eC (.int 2))) (aCons (eOp2 oIX (eVar 1) (eC (.int 3))) (aNil))))))) (sRet (eC (.int 0)))) (sNil)) (sSeq (sIf (tOf (eOp2 oEQ (eOp2 oIX (eVar 1) (eC (.int 0))) (eC (.str "arg")))) (sRet (eOp2 oIX (eFld cs_given "given" (eVar 2)) (eOp2 oIX (eVar 1) (eC (.int 1))))) (sNil)) (sRet (eIf (tOf (eOp2 oEQ (eOp2 oIX (eVar 1) (eC (.int 0))) (eC (.str "name")))) (eOp2 oIX (eFld cs_names "names" (eVar 2)) (eOp2 oIX (eVar 1) (eC (.int 1)))) (eOp2 oIX (eVar 1) (eC (.int 1))))))
def M_Machine_leaf : List D → Sto → Res D := fnM 3 m_Machine_leaf
theorem sc_Machine_leaf : FnScope ["self", "piece", "scope"] ["self", "piece", "scope"] (defScope s_Machine_leaf) := ⟨rfl, rfl, rfl, by decide +kernel, rfl, by decide +kernel, by decide +kernel⟩
theorem d_Machine_leaf (F : Fx K w mg) : FnA P w K mg base (He.ma K (He.ga K "Machine") "leaf") ["self", "piece", "scope"] [] 4 M_Machine_leaf := by
  obtain ⟨fd, F1⟩ := F.def_ 47 (d := dd_Machine_leaf)
  have F0 : FunD K "leaf" "Machine.leaf" (defArgs s_Machine_leaf) (defBody s_Machine_leaf) (defScope s_Machine_leaf) [] [] (He.ma K (He.ga K "Machine") "leaf") fd := F1
  refine fnA_of F0 sc_Machine_leaf (FunD.bindsN F0 fun _ _ _ _ _ _ us hl => match us, hl with | [_, _, _], _ => rfl) .nil (fun _ _ => .nil) fun cdv A outer s H E hr => ?_
  have g : Ge (cxOf (L2.CX P w) P w K mg base ["self", "piece", "scope"] "Machine.leaf" (defScope s_Machine_leaf) (He.ma K (He.ga K "Machine") "leaf") cdv A outer s H E) 3 := ⟨rfl, hr, sc_Machine_leaf.nd⟩
  have po : PassesOwn (model P w) (A.deeper (envOfC "Machine.leaf" (defScope s_Machine_leaf) s.heap.objs.size (He.ma K (He.ga K "Machine") "leaf") cdv)) (envOfC "Machine.leaf" (defScope s_Machine_leaf) s.heap.objs.size (He.ma K (He.ga K "Machine") "leaf") cdv) (cxOf (L2.CX P w) P w K mg base ["self", "piece", "scope"] "Machine.leaf" (defScope s_Machine_leaf) (He.ma K (He.ga K "Machine") "leaf") cdv A outer s H E).xe := PassesOwn.leaving
  exact (ss_cons (ss_if (st_cmp (r_eq g) (se_ix (r_ix g) v se_int) se_str) (ss_cons (ss_expr (se_call (d_define_in F) g.hr rfl (g_define_in F) (sa_cons (se_fld v (f_runtime F)) (sa_cons (se_ix (r_ix g) v se_int) (sa_cons (se_ix (r_ix g) v se_int) (sa_cons (se_ix (r_ix g) v se_int) sa_nil))))))
  (ss_one (ss_ret se_int))) ss_nil)
  (ss_cons (ss_if (st_cmp (r_eq g) (se_ix (r_ix g) v se_int) se_str) (ss_one (ss_ret (se_ix (r_ix g) (se_fld v (f_given F)) (se_ix (r_ix g) v se_int)))) ss_nil)
  (ss_one (ss_ret (se_ifx (st_cmp (r_eq g) (se_ix (r_ix g) v se_int) se_str) (se_ix (r_ix g) (se_fld v (f_names F)) (se_ix (r_ix g) v se_int)) (se_ix (r_ix g) v se_int))))))
def m_Machine_hand_up : MS := sIf (tOf (eOp2 oEQ (eFld cs_frames "frames" (eVar 0)) (eLst (aNil)))) (sSeq (sFld cs_value "value" (eVar 0) (eVar 1)) (sFld cs_has_ended "has_ended" (eVar 0) (eC (.bl true)))) (sExpr (eBM "list" oAppend (eFld cs_row "row" (eOp2 oIX (eFld cs_frames "frames" (eVar 0)) (eOp1 oNeg (eC (.int 1))))) (aCons (eVar 1) (aNil))))
def M_Machine_hand_up : List D → Sto → Res D := fnM 2 m_Machine_hand_up
theorem sc_Machine_hand_up : FnScope ["self", "value"] ["self", "value"] (defScope s_Machine_hand_up) := ⟨rfl, rfl, rfl, by decide +kernel, rfl, by decide +kernel, by decide +kernel⟩
theorem d_Machine_hand_up (F : Fx K w mg) : FnA P w K mg base (He.ma K (He.ga K "Machine") "hand_up") ["self", "value"] [] 1 M_Machine_hand_up := by
  obtain ⟨fd, F1⟩ := F.def_ 48 (d := dd_Machine_hand_up)
  have F0 : FunD K "hand_up" "Machine.hand_up" (defArgs s_Machine_hand_up) (defBody s_Machine_hand_up) (defScope s_Machine_hand_up) [] [] (He.ma K (He.ga K "Machine") "hand_up") fd := F1
  refine fnA_of F0 sc_Machine_hand_up (FunD.bindsN F0 fun _ _ _ _ _ _ us hl => match us, hl with | [_, _], _ => rfl) .nil (fun _ _ => .nil) fun cdv A outer s H E hr => ?_
  have g : Ge (cxOf (L2.CX P w) P w K mg base ["self", "value"] "Machine.hand_up" (defScope s_Machine_hand_up) (He.ma K (He.ga K "Machine") "hand_up") cdv A outer s H E) 0 := ⟨rfl, hr, sc_Machine_hand_up.nd⟩
  have po : PassesOwn (model P w) (A.deeper (envOfC "Machine.hand_up" (defScope s_Machine_hand_up) s.heap.objs.size (He.ma K (He.ga K "Machine") "hand_up") cdv)) (envOfC "Machine.hand_up" (defScope s_Machine_hand_up) s.heap.objs.size (He.ma K (He.ga K "Machine") "hand_up") cdv) (cxOf (L2.CX P w) P w K mg base ["self", "value"] "Machine.hand_up" (defScope s_Machine_hand_up) (He.ma K (He.ga K "Machine") "hand_up") cdv A outer s H E).xe := PassesOwn.leaving
  exact (ss_one (ss_if (st_cmp (r_eq g) (se_fld v (f_frames F)) (se_lst sa_nil)) (ss_cons (ss_fld v v (f_value F))
  (ss_one (ss_fld v se_bl (f_has_ended F)))) (ss_one (ss_expr (se_bm PySem.F.plainAttrs_list PySem.F.slot_list_append PySem.F.type_list_append s_append (se_fld (se_ix (r_ix g) (se_fld v (f_frames F)) (se_un s_neg se_int)) (f_row F)) (sa_cons v sa_nil))))))
def m_Machine_made_of : MS := sSeq (sPar3 2 3 4 (aCons (eFld cs_piece "piece" (eVar 1)) (aCons (eFld cs_row "row" (eVar 1)) (aCons (eFld cs_world "world" (eFld cs_scope "scope" (eVar 1))) (aNil))))) (sSeq (sIf (tOf (eOp2 oEQ (eOp2 oIX (eVar 2) (eC (.int 0))) (eC (.str "new")))) (sNever) (sNil)) (sSeq (sIf (tOf (eOp2 oEQ (eOp2 oIX (eVar 2) (eC (.int 0))) (eC (.str "field")))) (sNever) (sNil)) (sSeq (sIf (tOf (eOp2 oEQ (eOp2 oIX (eVar 2) (eC (.int 0))) (eC (.str "is")))) (sRet (eN oInt (aCons (eCall 3 [] M_below (aCons (eFld cs_runtime "runtime" (eVar 0)) (aCons (eCall 3 [] M_seen_of (aCons (eFld cs_runtime "runtime" (eVar 0)) (aCons (eOp2 oIX (eVar 3) (eC (.int 0))) (aCons (eVar 4) (aNil))))) (aCons (eOp2 oIX (eVar 2) (eC (.int 2))) (aNil))))) (aNil)))) (sNil)) (sSeq (sIf (tOf (eOp2 oIN (eOp2 oIX (eVar 2) (eC (.int 0))) (eC (.tup [.str "add", .str "less"])))) (sSeq (sIf (tNot (tOf (eN oAll (aCons (eLc 300 (iANY (eVar 3)) (.nm 5) (tYesM) (eCall 1 [] M_is_integer (aCons (eVar 5) (aNil))) [5]) (aNil))))) (sNever) (sNil)) (sRet (eIf (tOf (eOp2 oEQ (eOp2 oIX (eVar 2) (eC (.int 0))) (eC (.str "add")))) (eOp2 oPlus (eOp2 oIX (eVar 3) (eC (.int 0))) (eOp2 oIX (eVar 3) (eC (.int 1)))) (eN oInt (aCons (eOp2 oLt (eOp2 oIX (eVar 3) (eC (.int 0))) (eOp2 oIX (eVar 3) (eC (.int 1)))) (aNil)))))) (sNil)) (sRet (eOp2 oIX (eVar 3) (eC (.int 1))))))))
def M_Machine_made_of : List D → Sto → Res D := fnM 6 m_Machine_made_of
theorem sc_Machine_made_of : FnScope ["self", "frame", "piece", "values", "world", "value"] ["self", "frame"] (defScope s_Machine_made_of) := ⟨rfl, rfl, rfl, by decide +kernel, rfl, by decide +kernel, by decide +kernel⟩
theorem d_Machine_made_of (F : Fx K w mg) : FnA P w K mg base (He.ma K (He.ga K "Machine") "made_of") ["self", "frame"] [] 4 M_Machine_made_of := by
  obtain ⟨fd, F1⟩ := F.def_ 49 (d := dd_Machine_made_of)
  have F0 : FunD K "made_of" "Machine.made_of" (defArgs s_Machine_made_of) (defBody s_Machine_made_of) (defScope s_Machine_made_of) [] [] (He.ma K (He.ga K "Machine") "made_of") fd := F1
  refine fnA_of F0 sc_Machine_made_of (FunD.bindsN F0 fun _ _ _ _ _ _ us hl => match us, hl with | [_, _], _ => rfl) .nil (fun _ _ => .nil) fun cdv A outer s H E hr => ?_
  have g : Ge (cxOf (L2.CX P w) P w K mg base ["self", "frame", "piece", "values", "world", "value"] "Machine.made_of" (defScope s_Machine_made_of) (He.ma K (He.ga K "Machine") "made_of") cdv A outer s H E) 3 := ⟨rfl, hr, sc_Machine_made_of.nd⟩
  have po : PassesOwn (model P w) (A.deeper (envOfC "Machine.made_of" (defScope s_Machine_made_of) s.heap.objs.size (He.ma K (He.ga K "Machine") "made_of") cdv)) (envOfC "Machine.made_of" (defScope s_Machine_made_of) s.heap.objs.size (He.ma K (He.ga K "Machine") "made_of") cdv) (cxOf (L2.CX P w) P w K mg base ["self", "frame", "piece", "values", "world", "value"] "Machine.made_of" (defScope s_Machine_made_of) (He.ma K (He.ga K "Machine") "made_of") cdv A outer s H E).xe := PassesOwn.leaving
  exact (ss_cons (ss_par3 g.hc g.nd rfl rfl rfl (by decide) (by decide) (by decide) rfl rfl rfl (sa_cons (se_fld v (f_piece F)) (sa_cons (se_fld v (f_row F)) (sa_cons (se_fld (se_fld v (f_scope F)) (f_world F)) sa_nil))) rfl)
  (ss_cons (ss_if (st_cmp (r_eq g) (se_ix (r_ix g) v se_int) se_str) (ss_one ss_never) ss_nil)
  (ss_cons (ss_if (st_cmp (r_eq g) (se_ix (r_ix g) v se_int) se_str) (ss_one ss_never) ss_nil)
  (ss_cons (ss_if (st_cmp (r_eq g) (se_ix (r_ix g) v se_int) se_str) (ss_one (ss_ret (se_callTy s_int rfl (n_int F) bt_int (sa_cons (se_call (d_below F) g.hr rfl (g_below F) (sa_cons (se_fld v (f_runtime F)) (sa_cons (se_call (d_seen_of F) g.hr rfl (g_seen_of F) (sa_cons (se_fld v (f_runtime F)) (sa_cons (se_ix (r_ix g) v se_int) (sa_cons v sa_nil)))) (sa_cons (se_ix (r_ix g) v se_int) sa_nil)))) sa_nil)))) ss_nil)
  (ss_cons (ss_if (st_cmp (r_in g) (se_ix (r_ix g) v se_int) (se_glD rfl (k_PAIRS F))) (ss_cons (ss_if (st_not (st_val (se_callB (s_all g.hc) rfl (n_all F) bt_all (sa_cons (lcG g (own := [("value", 5)]) (i_any v) (by exact blkOk_by (by rfl)) (fun _ _ _ _ _ g => (tgv g)) (fun _ _ _ _ _ g => sts_nil) (fun _ _ _ _ _ g => (se_call (d_is_integer F) g.hr rfl (g_is_integer F) (sa_cons v sa_nil)))) sa_nil)))) (ss_one ss_never) ss_nil)
  (ss_one (ss_ret (se_ifx (st_cmp (r_eq g) (se_ix (r_ix g) v se_int) se_str) (se_bin r_plus (se_ix (r_ix g) v se_int) (se_ix (r_ix g) v se_int)) (se_callTy s_int rfl (n_int F) bt_int (sa_cons (se_cmp s_lt (se_ix (r_ix g) v se_int) (se_ix (r_ix g) v se_int)) sa_nil)))))) ss_nil)
  (ss_one (ss_ret (se_ix (r_ix g) v se_int))))))))
def m_Machine_enter : MS := sSeq (sSet 4 (eN oTupOf (aCons (eLc 300 (iANY (eVar 2)) (.nm 7) (tYesM) (eCall 3 [] M_seen_of (aCons (eFld cs_runtime "runtime" (eVar 0)) (aCons (eVar 7) (aCons (eVar 3) (aNil))))) [7]) (aNil)))) (sSeq (sSet 5 (eCall 4 [] M_selected_methods (aCons (eFld cs_runtime "runtime" (eVar 0)) (aCons (eVar 1) (aCons (eVar 4) (aCons (eVar 3) (aNil))))))) (sSeq (sIf (tOf (eOp2 oEQ (eVar 5) (eC (.str "none")))) (sNever) (sNil)) (sSeq (sIf (tOf (eOp2 oEQ (eVar 5) (eC (.str "ambiguous")))) (sNever) (sNil)) (sSeq (sSet 6 (eMake "Scope" 5 M_Scope___init__ (aCons (eN oTupOf (aCons (eVar 2) (aNil))) (aCons (eNewK) (aCons (eVar 3) (aCons (eMeth "Follower" "entered" 4 M_Follower_entered (eFld cs_follower "follower" (eVar 0)) (aCons (eVar 1) (aCons (eVar 4) (aCons (eVar 3) (aNil))))) (aNil))))))) (sFld cs_pending "pending" (eVar 0) (eTup (aCons (eOp2 oIX (eVar 5) (eC (.int 1))) (aCons (eTup (aNil)) (aCons (eVar 6) (aNil))))))))))
def M_Machine_enter : List D → Sto → Res D := fnM 8 m_Machine_enter
theorem sc_Machine_enter : FnScope ["self", "function", "values", "world", "classes", "found", "scope", "value"] ["self", "function", "values", "world"] (defScope s_Machine_enter) := ⟨rfl, rfl, rfl, by decide +kernel, rfl, by decide +kernel, by decide +kernel⟩
theorem d_Machine_enter (F : Fx K w mg) : FnA P w K mg base (He.ma K (He.ga K "Machine") "enter") ["self", "function", "values", "world"] [] 5 M_Machine_enter := by
  obtain ⟨fd, F1⟩ := F.def_ 50 (d := dd_Machine_enter)
  have F0 : FunD K "enter" "Machine.enter" (defArgs s_Machine_enter) (defBody s_Machine_enter) (defScope s_Machine_enter) [] [] (He.ma K (He.ga K "Machine") "enter") fd := F1
  refine fnA_of F0 sc_Machine_enter (FunD.bindsN F0 fun _ _ _ _ _ _ us hl => match us, hl with | [_, _, _, _], _ => rfl) .nil (fun _ _ => .nil) fun cdv A outer s H E hr => ?_
  have g : Ge (cxOf (L2.CX P w) P w K mg base ["self", "function", "values", "world", "classes", "found", "scope", "value"] "Machine.enter" (defScope s_Machine_enter) (He.ma K (He.ga K "Machine") "enter") cdv A outer s H E) 4 := ⟨rfl, hr, sc_Machine_enter.nd⟩
  have po : PassesOwn (model P w) (A.deeper (envOfC "Machine.enter" (defScope s_Machine_enter) s.heap.objs.size (He.ma K (He.ga K "Machine") "enter") cdv)) (envOfC "Machine.enter" (defScope s_Machine_enter) s.heap.objs.size (He.ma K (He.ga K "Machine") "enter") cdv) (cxOf (L2.CX P w) P w K mg base ["self", "function", "values", "world", "classes", "found", "scope", "value"] "Machine.enter" (defScope s_Machine_enter) (He.ma K (He.ga K "Machine") "enter") cdv A outer s H E).xe := PassesOwn.leaving
  exact (ss_cons (setv g (se_callTy s_tupOf rfl (n_tuple F) bt_tuple (sa_cons (lcG g (own := [("value", 7)]) (i_any v) (by exact blkOk_by (by rfl)) (fun _ _ _ _ _ g => (tgv g)) (fun _ _ _ _ _ g => sts_nil) (fun _ _ _ _ _ g => (se_call (d_seen_of F) g.hr rfl (g_seen_of F) (sa_cons (se_fld v (f_runtime F)) (sa_cons v (sa_cons v sa_nil)))))) sa_nil)))
  (ss_cons (setv g (se_call (d_selected_methods F) g.hr rfl (g_selected_methods F) (sa_cons (se_fld v (f_runtime F)) (sa_cons v (sa_cons v (sa_cons v sa_nil))))))
  (ss_cons (ss_if (st_cmp (r_eq g) v se_str) (ss_one ss_never) ss_nil)
  (ss_cons (ss_if (st_cmp (r_eq g) v se_str) (ss_one ss_never) ss_nil)
  (ss_cons (setv g (se_make (mk_Scope F) (d_Scope___init__ F) g.hr rfl (g_Scope F) (sa_cons (se_callTy s_tupOf rfl (n_tuple F) bt_tuple (sa_cons v sa_nil)) (sa_cons se_newK (sa_cons v (sa_cons (se_meth (se_fld v (f_follower F)) (c_Follower F) (mt_Follower_entered F) (d_Follower_entered F) g.hr (sa_cons v (sa_cons v (sa_cons v sa_nil)))) sa_nil))))))
  (ss_one (ss_fld v (se_tup (sa_cons (se_ix (r_ix g) v se_int) (sa_cons (se_tup sa_nil) (sa_cons v sa_nil)))) (f_pending F))))))))
def m_Machine_go_on : MS := sSeq (sSet 2 (eMeth "Frame" "next_at" 1 M_Frame_next_at (eVar 1) aNil)) (sSeq (sIf (tOf (eOp2 oNotN (eVar 2) (eC .non))) (sSeq (sFld cs_pending "pending" (eVar 0) (eTup (aCons (eOp2 oIX (eFld cs_piece "piece" (eVar 1)) (eVar 2)) (aCons (eOp2 oPlus (eFld cs_path "path" (eVar 1)) (eTup (aCons (eVar 2) (aNil)))) (aCons (eMeth "Frame" "scope_at" 2 M_Frame_scope_at (eVar 1) (aCons (eVar 2) (aNil))) (aNil)))))) (sRetN)) (sNil)) (sSeq (sExpr (eBM "list" oPop (eFld cs_frames "frames" (eVar 0)) aNil)) (sIf (tOf (eOp2 oIN (eOp2 oIX (eFld cs_piece "piece" (eVar 1)) (eC (.int 0))) (eC (.tup [.str "call", .str "newest"])))) (sSeq (sNever) (sSeq (sSet 3 (eIf (tOf (eOp2 oEQ (eOp2 oIX (eFld cs_piece "piece" (eVar 1)) (eC (.int 0))) (eC (.str "call")))) (eFld cs_world "world" (eFld cs_scope "scope" (eVar 1))) (eMeth "Runtime" "newest" 1 M_Runtime_newest (eFld cs_runtime "runtime" (eVar 0)) aNil))) (sExpr (eMeth "Machine" "enter" 4 M_Machine_enter (eVar 0) (aCons (eOp2 oIX (eFld cs_piece "piece" (eVar 1)) (eC (.int 1))) (aCons (eFld cs_row "row" (eVar 1)) (aCons (eVar 3) (aNil)))))))) (sExpr (eMeth "Machine" "hand_up" 2 M_Machine_hand_up (eVar 0) (aCons (eMeth "Machine" "made_of" 2 M_Machine_made_of (eVar 0) (aCons (eVar 1) (aNil))) (aNil)))))))
def M_Machine_go_on : List D → Sto → Res D := fnM 4 m_Machine_go_on
theorem sc_Machine_go_on : FnScope ["self", "frame", "at", "world"] ["self", "frame"] (defScope s_Machine_go_on) := ⟨rfl, rfl, rfl, by decide +kernel, rfl, by decide +kernel, by decide +kernel⟩
theorem d_Machine_go_on (F : Fx K w mg) : FnA P w K mg base (He.ma K (He.ga K "Machine") "go_on") ["self", "frame"] [] 6 M_Machine_go_on := by
  obtain ⟨fd, F1⟩ := F.def_ 51 (d := dd_Machine_go_on)
  have F0 : FunD K "go_on" "Machine.go_on" (defArgs s_Machine_go_on) (defBody s_Machine_go_on) (defScope s_Machine_go_on) [] [] (He.ma K (He.ga K "Machine") "go_on") fd := F1
  refine fnA_of F0 sc_Machine_go_on (FunD.bindsN F0 fun _ _ _ _ _ _ us hl => match us, hl with | [_, _], _ => rfl) .nil (fun _ _ => .nil) fun cdv A outer s H E hr => ?_
  have g : Ge (cxOf (L2.CX P w) P w K mg base ["self", "frame", "at", "world"] "Machine.go_on" (defScope s_Machine_go_on) (He.ma K (He.ga K "Machine") "go_on") cdv A outer s H E) 5 := ⟨rfl, hr, sc_Machine_go_on.nd⟩
  have po : PassesOwn (model P w) (A.deeper (envOfC "Machine.go_on" (defScope s_Machine_go_on) s.heap.objs.size (He.ma K (He.ga K "Machine") "go_on") cdv)) (envOfC "Machine.go_on" (defScope s_Machine_go_on) s.heap.objs.size (He.ma K (He.ga K "Machine") "go_on") cdv) (cxOf (L2.CX P w) P w K mg base ["self", "frame", "at", "world"] "Machine.go_on" (defScope s_Machine_go_on) (He.ma K (He.ga K "Machine") "go_on") cdv A outer s H E).xe := PassesOwn.leaving
  exact (ss_cons (setv g (se_meth0 v (c_Frame F) (mt_Frame_next_at F) (d_Frame_next_at F) g.hr))
  (ss_cons (ss_if (st_cmp s_notN v se_non) (ss_cons (ss_fld v (se_tup (sa_cons (se_ix (r_ix g) (se_fld v (f_piece F)) v) (sa_cons (se_bin r_plus (se_fld v (f_path F)) (se_tup (sa_cons v sa_nil))) (sa_cons (se_meth v (c_Frame F) (mt_Frame_scope_at F) (d_Frame_scope_at F) g.hr (sa_cons v sa_nil)) sa_nil)))) (f_pending F))
  (ss_one ss_retN)) ss_nil)
  (ss_cons (ss_expr (se_bm0 PySem.F.plainAttrs_list PySem.F.slot_list_pop PySem.F.type_list_pop s_pop (se_fld v (f_frames F))))
  (ss_one (ss_if (st_cmp (r_in g) (se_ix (r_ix g) (se_fld v (f_piece F)) se_int) (se_glD rfl (k_CALLS_machine F))) (ss_cons ss_never
  (ss_cons (setv g (se_ifx (st_cmp (r_eq g) (se_ix (r_ix g) (se_fld v (f_piece F)) se_int) se_str) (se_fld (se_fld v (f_scope F)) (f_world F)) (se_meth0 (se_fld v (f_runtime F)) (c_Runtime F) (mt_Runtime_newest F) (d_Runtime_newest F) g.hr)))
  (ss_one (ss_expr (se_meth v (c_Machine F) (mt_Machine_enter F) (d_Machine_enter F) g.hr (sa_cons (se_ix (r_ix g) (se_fld v (f_piece F)) se_int) (sa_cons (se_fld v (f_row F)) (sa_cons v sa_nil)))))))) (ss_one (ss_expr (se_meth v (c_Machine F) (mt_Machine_hand_up F) (d_Machine_hand_up F) g.hr (sa_cons (se_meth v (c_Machine F) (mt_Machine_made_of F) (d_Machine_made_of F) g.hr (sa_cons v sa_nil)) sa_nil)))))))))
def m_Machine_step : MS := sSeq (sIf (tOf (eOp2 oEQ (eFld cs_spent "spent" (eVar 0)) (eFld cs_most "most" (eVar 0)))) (sNever) (sNil)) (sSeq (sFldAug cs_spent "spent" (oI2 fun a b => .int (a + b)) (eVar 0) (eC (.int 1))) (sSeq (sAsg (.tp ((.nm 1) :: (.nm 2) :: (.nm 3) :: [])) (eFld cs_pending "pending" (eVar 0))) (sSeq (sFld cs_pending "pending" (eVar 0) (eC .non)) (sSeq (sIf (tOf (eOp2 oIN (eOp2 oIX (eVar 1) (eC (.int 0))) (eC (.tup [.str "int", .str "arg", .str "name", .str "define"])))) (sExpr (eMeth "Machine" "hand_up" 2 M_Machine_hand_up (eVar 0) (aCons (eMeth "Machine" "leaf" 3 M_Machine_leaf (eVar 0) (aCons (eVar 1) (aCons (eVar 3) (aNil)))) (aNil)))) (sExpr (eBM "list" oAppend (eFld cs_frames "frames" (eVar 0)) (aCons (eMake "Frame" 4 M_Frame___init__ (aCons (eVar 1) (aCons (eVar 2) (aCons (eVar 3) (aNil))))) (aNil))))) (loopW 300 (tAnd (tOf (eOp2 oIsN (eFld cs_pending "pending" (eVar 0)) (eC .non))) (tOf (eOp2 oNE (eFld cs_frames "frames" (eVar 0)) (eLst (aNil))))) (sExpr (eMeth "Machine" "go_on" 2 M_Machine_go_on (eVar 0) (aCons (eOp2 oIX (eFld cs_frames "frames" (eVar 0)) (eOp1 oNeg (eC (.int 1)))) (aNil)))))))))
def M_Machine_step : List D → Sto → Res D := fnM 4 m_Machine_step
theorem sc_Machine_step : FnScope ["self", "piece", "path", "scope"] ["self"] (defScope s_Machine_step) := ⟨rfl, rfl, rfl, by decide +kernel, rfl, by decide +kernel, by decide +kernel⟩
theorem d_Machine_step (F : Fx K w mg) : FnA P w K mg base (He.ma K (He.ga K "Machine") "step") ["self"] [] 7 M_Machine_step := by
  obtain ⟨fd, F1⟩ := F.def_ 52 (d := dd_Machine_step)
  have F0 : FunD K "step" "Machine.step" (defArgs s_Machine_step) (defBody s_Machine_step) (defScope s_Machine_step) [] [] (He.ma K (He.ga K "Machine") "step") fd := F1
  refine fnA_of F0 sc_Machine_step (FunD.bindsN F0 fun _ _ _ _ _ _ us hl => match us, hl with | [_], _ => rfl) .nil (fun _ _ => .nil) fun cdv A outer s H E hr => ?_
  have g : Ge (cxOf (L2.CX P w) P w K mg base ["self", "piece", "path", "scope"] "Machine.step" (defScope s_Machine_step) (He.ma K (He.ga K "Machine") "step") cdv A outer s H E) 6 := ⟨rfl, hr, sc_Machine_step.nd⟩
  have po : PassesOwn (model P w) (A.deeper (envOfC "Machine.step" (defScope s_Machine_step) s.heap.objs.size (He.ma K (He.ga K "Machine") "step") cdv)) (envOfC "Machine.step" (defScope s_Machine_step) s.heap.objs.size (He.ma K (He.ga K "Machine") "step") cdv) (cxOf (L2.CX P w) P w K mg base ["self", "piece", "path", "scope"] "Machine.step" (defScope s_Machine_step) (He.ma K (He.ga K "Machine") "step") cdv A outer s H E).xe := PassesOwn.leaving
  exact (ss_cons (ss_if (st_cmp (r_eq g) (se_fld v (f_spent F)) (se_fld v (f_most F))) (ss_one ss_never) ss_nil)
  (ss_cons (ss_fldaugI in_add v se_int (f_spent F))
  (ss_cons (ss_asg (se_fld v (f_pending F)) (sg_tup g.hc (sg_cons (tgv g) (sg_cons (tgv g) (sg_cons (tgv g) sg_nil)))))
  (ss_cons (ss_fld v se_non (f_pending F))
  (ss_cons (ss_if (st_cmp (r_in g) (se_ix (r_ix g) v se_int) (se_glD rfl (k_LEAVES F))) (ss_one (ss_expr (se_meth v (c_Machine F) (mt_Machine_hand_up F) (d_Machine_hand_up F) g.hr (sa_cons (se_meth v (c_Machine F) (mt_Machine_leaf F) (d_Machine_leaf F) g.hr (sa_cons v (sa_cons v sa_nil))) sa_nil)))) (ss_one (ss_expr (se_bm PySem.F.plainAttrs_list PySem.F.slot_list_append PySem.F.type_list_append s_append (se_fld v (f_frames F)) (sa_cons (se_make (mk_Frame F) (d_Frame___init__ F) g.hr rfl (g_Frame F) (sa_cons v (sa_cons v (sa_cons v sa_nil)))) sa_nil)))))
  (ss_one (ss_while po (st_w (sw_and (st_cmp s_isN (se_fld v (f_pending F)) se_non) (sw_and1 (st_cmp (r_ne g) (se_fld v (f_frames F)) (se_lst sa_nil))))) (ss_one (ss_expr (se_meth v (c_Machine F) (mt_Machine_go_on F) (d_Machine_go_on F) g.hr (sa_cons (se_ix (r_ix g) (se_fld v (f_frames F)) (se_un s_neg se_int)) sa_nil)))))))))))
def m_Machine_begin : MS := sTryN (sExpr (eMeth "Machine" "enter" 4 M_Machine_enter (eVar 0) (aCons (eVar 1) (aCons (eVar 2) (aCons (eVar 3) (aNil))))))
def M_Machine_begin : List D → Sto → Res D := fnM 5 m_Machine_begin
theorem sc_Machine_begin : FnScope ["self", "function", "values", "world", "error"] ["self", "function", "values", "world"] (defScope s_Machine_begin) := ⟨rfl, rfl, rfl, by decide +kernel, rfl, by decide +kernel, by decide +kernel⟩
theorem d_Machine_begin (F : Fx K w mg) : FnA P w K mg base (He.ma K (He.ga K "Machine") "begin") ["self", "function", "values", "world"] [] 6 M_Machine_begin := by
  obtain ⟨fd, F1⟩ := F.def_ 53 (d := dd_Machine_begin)
  have F0 : FunD K "begin" "Machine.begin" (defArgs s_Machine_begin) (defBody s_Machine_begin) (defScope s_Machine_begin) [] [] (He.ma K (He.ga K "Machine") "begin") fd := F1
  refine fnA_of F0 sc_Machine_begin (FunD.bindsN F0 fun _ _ _ _ _ _ us hl => match us, hl with | [_, _, _, _], _ => rfl) .nil (fun _ _ => .nil) fun cdv A outer s H E hr => ?_
  have g : Ge (cxOf (L2.CX P w) P w K mg base ["self", "function", "values", "world", "error"] "Machine.begin" (defScope s_Machine_begin) (He.ma K (He.ga K "Machine") "begin") cdv A outer s H E) 5 := ⟨rfl, hr, sc_Machine_begin.nd⟩
  have po : PassesOwn (model P w) (A.deeper (envOfC "Machine.begin" (defScope s_Machine_begin) s.heap.objs.size (He.ma K (He.ga K "Machine") "begin") cdv)) (envOfC "Machine.begin" (defScope s_Machine_begin) s.heap.objs.size (He.ma K (He.ga K "Machine") "begin") cdv) (cxOf (L2.CX P w) P w K mg base ["self", "function", "values", "world", "error"] "Machine.begin" (defScope s_Machine_begin) (He.ma K (He.ga K "Machine") "begin") cdv A outer s H E).xe := PassesOwn.leaving
  exact (ss_one (ss_tryN (i := 4) g rfl rfl rfl rfl ⟨rfl, rfl, .inl (g_WorldError F)⟩ (fun pn xe po => have g := g.tr pn xe; (ss_one (ss_expr (se_meth v (c_Machine F) (mt_Machine_enter F) (d_Machine_enter F) g.hr (sa_cons v (sa_cons v (sa_cons v sa_nil)))))))))
def m_Machine_go : MS := loopW 300 (tAnd (tOf (eOp2 oGt (eVar 1) (eC (.int 0)))) (tNot (tOf (eFld cs_has_ended "has_ended" (eVar 0))))) (sSeq (sAug 1 (oI2 fun a b => .int (a - b)) (eC (.int 1))) (sTryN (sExpr (eMeth "Machine" "step" 1 M_Machine_step (eVar 0) aNil))))
def M_Machine_go : List D → Sto → Res D := fnM 3 m_Machine_go
theorem sc_Machine_go : FnScope ["self", "many", "error"] ["self", "many"] (defScope s_Machine_go) := ⟨rfl, rfl, rfl, by decide +kernel, rfl, by decide +kernel, by decide +kernel⟩
theorem d_Machine_go (F : Fx K w mg) : FnA P w K mg base (He.ma K (He.ga K "Machine") "go") ["self", "many"] [] 8 M_Machine_go := by
  obtain ⟨fd, F1⟩ := F.def_ 54 (d := dd_Machine_go)
  have F0 : FunD K "go" "Machine.go" (defArgs s_Machine_go) (defBody s_Machine_go) (defScope s_Machine_go) [] [] (He.ma K (He.ga K "Machine") "go") fd := F1
  refine fnA_of F0 sc_Machine_go (FunD.bindsN F0 fun _ _ _ _ _ _ us hl => match us, hl with | [_, _], _ => rfl) .nil (fun _ _ => .nil) fun cdv A outer s H E hr => ?_
  have g : Ge (cxOf (L2.CX P w) P w K mg base ["self", "many", "error"] "Machine.go" (defScope s_Machine_go) (He.ma K (He.ga K "Machine") "go") cdv A outer s H E) 7 := ⟨rfl, hr, sc_Machine_go.nd⟩
  have po : PassesOwn (model P w) (A.deeper (envOfC "Machine.go" (defScope s_Machine_go) s.heap.objs.size (He.ma K (He.ga K "Machine") "go") cdv)) (envOfC "Machine.go" (defScope s_Machine_go) s.heap.objs.size (He.ma K (He.ga K "Machine") "go") cdv) (cxOf (L2.CX P w) P w K mg base ["self", "many", "error"] "Machine.go" (defScope s_Machine_go) (He.ma K (He.ga K "Machine") "go") cdv A outer s H E).xe := PassesOwn.leaving
  exact (ss_one (ss_while po (st_w (sw_and (st_cmp s_gt v se_int) (sw_and1 (st_not (st_val (se_fld v (f_has_ended F))))))) (ss_cons (ss_augI ip_sub g.nd rfl (by first | exact .inl rfl | exact .inr rfl) se_int)
  (ss_one (ss_tryN (i := 2) g rfl rfl rfl rfl ⟨rfl, rfl, .inl (g_WorldError F)⟩ (fun pn xe po => have g := g.tr pn xe; (ss_one (ss_expr (se_meth0 v (c_Machine F) (mt_Machine_step F) (d_Machine_step F) g.hr)))))))))
def m_Machine_ending : MS := sSeq (sExpr (eCall 1 [] M_raise_again (aCons (eFld cs_error "error" (eVar 0)) (aNil)))) (sRet (eFld cs_value "value" (eVar 0)))
def M_Machine_ending : List D → Sto → Res D := fnM 1 m_Machine_ending
theorem sc_Machine_ending : FnScope ["self"] ["self"] (defScope s_Machine_ending) := ⟨rfl, rfl, rfl, by decide +kernel, rfl, by decide +kernel, by decide +kernel⟩
theorem d_Machine_ending (F : Fx K w mg) : FnA P w K mg base (He.ma K (He.ga K "Machine") "ending") ["self"] [] 2 M_Machine_ending := by
  obtain ⟨fd, F1⟩ := F.def_ 55 (d := dd_Machine_ending)
  have F0 : FunD K "ending" "Machine.ending" (defArgs s_Machine_ending) (defBody s_Machine_ending) (defScope s_Machine_ending) [] [] (He.ma K (He.ga K "Machine") "ending") fd := F1
  refine fnA_of F0 sc_Machine_ending (FunD.bindsN F0 fun _ _ _ _ _ _ us hl => match us, hl with | [_], _ => rfl) .nil (fun _ _ => .nil) fun cdv A outer s H E hr => ?_
  have g : Ge (cxOf (L2.CX P w) P w K mg base ["self"] "Machine.ending" (defScope s_Machine_ending) (He.ma K (He.ga K "Machine") "ending") cdv A outer s H E) 1 := ⟨rfl, hr, sc_Machine_ending.nd⟩
  have po : PassesOwn (model P w) (A.deeper (envOfC "Machine.ending" (defScope s_Machine_ending) s.heap.objs.size (He.ma K (He.ga K "Machine") "ending") cdv)) (envOfC "Machine.ending" (defScope s_Machine_ending) s.heap.objs.size (He.ma K (He.ga K "Machine") "ending") cdv) (cxOf (L2.CX P w) P w K mg base ["self"] "Machine.ending" (defScope s_Machine_ending) (He.ma K (He.ga K "Machine") "ending") cdv A outer s H E).xe := PassesOwn.leaving
  exact (ss_cons (ss_expr (se_call (d_raise_again F) g.hr rfl (g_raise_again F) (sa_cons (se_fld v (f_error F)) sa_nil)))
  (ss_one (ss_ret (se_fld v (f_value F)))))
def m_check_question : MS := sSeq (sIf (tNot (tOf (eCall 1 [] M_is_name (aCons (eVar 0) (aNil))))) (sRaise "NoFunction" "function" (eVar 0)) (sNil)) (sSeq (sIf (tOr (tNot (tOf (eN (oIsi tabI) (aCons (eVar 1) (aCons (eC (.ty "tuple")) (aNil)))))) (tNot (tOf (eChain oLe oLe (eC (.int 1)) (eN oLen (aCons (eVar 1) (aNil))) (eC (.int 2)))))) (sRaise "NoValues" "given" (eVar 1)) (sNil)) (sIf (tNot (tOf (eN oAll (aCons (eLc 300 (iANY (eVar 1)) (.nm 2) (tYesM) (eCall 1 [] M_is_value (aCons (eVar 2) (aNil))) [2]) (aNil))))) (sRaise "NoValues" "given" (eVar 1)) (sNil)))
def M_check_question : List D → Sto → Res D := fnM 3 m_check_question
theorem sc_check_question : FnScope ["function", "values", "value"] ["function", "values"] (defScope s_check_question) := ⟨rfl, rfl, rfl, by decide +kernel, rfl, by decide +kernel, by decide +kernel⟩
theorem d_check_question (F : Fx K w mg) : FnA P w K mg base (He.ga K "check_question") ["function", "values"] [] 3 M_check_question := by
  obtain ⟨fd, F1⟩ := F.def_ 56 (d := dd_check_question)
  have F0 : FunD K "check_question" "check_question" (defArgs s_check_question) (defBody s_check_question) (defScope s_check_question) [] [] (He.ga K "check_question") fd := F1
  refine fnA_of F0 sc_check_question (FunD.bindsN F0 fun _ _ _ _ _ _ us hl => match us, hl with | [_, _], _ => rfl) .nil (fun _ _ => .nil) fun cdv A outer s H E hr => ?_
  have g : Ge (cxOf (L2.CX P w) P w K mg base ["function", "values", "value"] "check_question" (defScope s_check_question) (He.ga K "check_question") cdv A outer s H E) 2 := ⟨rfl, hr, sc_check_question.nd⟩
  have po : PassesOwn (model P w) (A.deeper (envOfC "check_question" (defScope s_check_question) s.heap.objs.size (He.ga K "check_question") cdv)) (envOfC "check_question" (defScope s_check_question) s.heap.objs.size (He.ga K "check_question") cdv) (cxOf (L2.CX P w) P w K mg base ["function", "values", "value"] "check_question" (defScope s_check_question) (He.ga K "check_question") cdv A outer s H E).xe := PassesOwn.leaving
  exact (ss_cons (ss_if (st_not (st_val (se_call (d_is_name F) g.hr rfl (g_is_name F) (sa_cons v sa_nil)))) (ss_one (ss_raise (x_NoFunction F) g.hc g.hr rfl (g_NoFunction F) v)) ss_nil)
  (ss_cons (ss_if (st_w (sw_or (st_not (st_val (se_callB (s_isi F.isi) rfl (n_isinstance F) bt_isinstance (sa_cons v (sa_cons (se_ty rfl (n_tuple F) bt_tuple) sa_nil))))) (sw_or1 (st_not (st_chain s_le s_le se_int (se_callB s_len rfl (n_len F) bt_len (sa_cons v sa_nil)) (se_glD rfl (k_MOST_VALUES F))))))) (ss_one (ss_raise (x_NoValues F) g.hc g.hr rfl (g_NoValues F) v)) ss_nil)
  (ss_one (ss_if (st_not (st_val (se_callB (s_all g.hc) rfl (n_all F) bt_all (sa_cons (lcG g (own := [("value", 2)]) (i_any v) (by exact blkOk_by (by rfl)) (fun _ _ _ _ _ g => (tgv g)) (fun _ _ _ _ _ g => sts_nil) (fun _ _ _ _ _ g => (se_call (d_is_value F) g.hr rfl (g_is_value F) (sa_cons v sa_nil)))) sa_nil)))) (ss_one (ss_raise (x_NoValues F) g.hc g.hr rfl (g_NoValues F) v)) ss_nil))))
def m_check_steps : MS := sIf (tNot (tOf (eCall 3 [] M_is_between (aCons (eVar 0) (aCons (eC (.int 1)) (aCons (eC (.int 100000)) (aNil))))))) (sRaise "NoSteps" "steps" (eVar 0)) (sNil)
def M_check_steps : List D → Sto → Res D := fnM 1 m_check_steps
theorem sc_check_steps : FnScope ["steps"] ["steps"] (defScope s_check_steps) := ⟨rfl, rfl, rfl, by decide +kernel, rfl, by decide +kernel, by decide +kernel⟩
theorem d_check_steps (F : Fx K w mg) : FnA P w K mg base (He.ga K "check_steps") ["steps"] [] 3 M_check_steps := by
  obtain ⟨fd, F1⟩ := F.def_ 57 (d := dd_check_steps)
  have F0 : FunD K "check_steps" "check_steps" (defArgs s_check_steps) (defBody s_check_steps) (defScope s_check_steps) [] [] (He.ga K "check_steps") fd := F1
  refine fnA_of F0 sc_check_steps (FunD.bindsN F0 fun _ _ _ _ _ _ us hl => match us, hl with | [_], _ => rfl) .nil (fun _ _ => .nil) fun cdv A outer s H E hr => ?_
  have g : Ge (cxOf (L2.CX P w) P w K mg base ["steps"] "check_steps" (defScope s_check_steps) (He.ga K "check_steps") cdv A outer s H E) 2 := ⟨rfl, hr, sc_check_steps.nd⟩
  have po : PassesOwn (model P w) (A.deeper (envOfC "check_steps" (defScope s_check_steps) s.heap.objs.size (He.ga K "check_steps") cdv)) (envOfC "check_steps" (defScope s_check_steps) s.heap.objs.size (He.ga K "check_steps") cdv) (cxOf (L2.CX P w) P w K mg base ["steps"] "check_steps" (defScope s_check_steps) (He.ga K "check_steps") cdv A outer s H E).xe := PassesOwn.leaving
  exact (ss_one (ss_if (st_not (st_val (se_call (d_is_between F) g.hr rfl (g_is_between F) (sa_cons v (sa_cons se_int (sa_cons (se_glD rfl (k_MOST_STEPS F)) sa_nil)))))) (ss_one (ss_raise (x_NoSteps F) g.hc g.hr rfl (g_NoSteps F) v)) ss_nil))
def m_world_for : MS := sSeq (sExpr (eCall 2 [] M_check_question (aCons (eVar 1) (aCons (eVar 2) (aNil))))) (sSeq (sSet 5 (eCall 2 [] M_world_of (aCons (eVar 0) (aCons (eVar 3) (aNil))))) (sSeq (sExpr (eCall 1 [] M_check_steps (aCons (eVar 4) (aNil)))) (sRet (eVar 5))))
def M_world_for : List D → Sto → Res D := fnM 6 m_world_for
theorem sc_world_for : FnScope ["runtime", "function", "values", "world", "steps", "found"] ["runtime", "function", "values", "world", "steps"] (defScope s_world_for) := ⟨rfl, rfl, rfl, by decide +kernel, rfl, by decide +kernel, by decide +kernel⟩
theorem d_world_for (F : Fx K w mg) : FnA P w K mg base (He.ga K "world_for") ["runtime", "function", "values", "world", "steps"] [] 4 M_world_for := by
  obtain ⟨fd, F1⟩ := F.def_ 58 (d := dd_world_for)
  have F0 : FunD K "world_for" "world_for" (defArgs s_world_for) (defBody s_world_for) (defScope s_world_for) [] [] (He.ga K "world_for") fd := F1
  refine fnA_of F0 sc_world_for (FunD.bindsN F0 fun _ _ _ _ _ _ us hl => match us, hl with | [_, _, _, _, _], _ => rfl) .nil (fun _ _ => .nil) fun cdv A outer s H E hr => ?_
  have g : Ge (cxOf (L2.CX P w) P w K mg base ["runtime", "function", "values", "world", "steps", "found"] "world_for" (defScope s_world_for) (He.ga K "world_for") cdv A outer s H E) 3 := ⟨rfl, hr, sc_world_for.nd⟩
  have po : PassesOwn (model P w) (A.deeper (envOfC "world_for" (defScope s_world_for) s.heap.objs.size (He.ga K "world_for") cdv)) (envOfC "world_for" (defScope s_world_for) s.heap.objs.size (He.ga K "world_for") cdv) (cxOf (L2.CX P w) P w K mg base ["runtime", "function", "values", "world", "steps", "found"] "world_for" (defScope s_world_for) (He.ga K "world_for") cdv A outer s H E).xe := PassesOwn.leaving
  exact (ss_cons (ss_expr (se_call (d_check_question F) g.hr rfl (g_check_question F) (sa_cons v (sa_cons v sa_nil))))
  (ss_cons (setv g (se_call (d_world_of F) g.hr rfl (g_world_of F) (sa_cons v (sa_cons v sa_nil))))
  (ss_cons (ss_expr (se_call (d_check_steps F) g.hr rfl (g_check_steps F) (sa_cons v sa_nil)))
  (ss_one (ss_ret v)))))
def m_begin : MS := sSeq (sSet 4 (eCall 5 [] M_world_for (aCons (eVar 0) (aCons (eVar 1) (aCons (eVar 2) (aCons (eC .non) (aCons (eVar 3) (aNil)))))))) (sSeq (sSet 5 (eMake "Machine" 4 M_Machine___init__ (aCons (eVar 0) (aCons (eVar 3) (aCons (eBare "Follower") (aNil)))))) (sSeq (sExpr (eMeth "Machine" "begin" 4 M_Machine_begin (eVar 5) (aCons (eVar 1) (aCons (eVar 2) (aCons (eVar 4) (aNil)))))) (sSeq (sExpr (eBM "list" oAppend (eFld cs_tasks "tasks" (eVar 0)) (aCons (eVar 5) (aNil)))) (sRet (eOp2 oSub (eN oLen (aCons (eFld cs_tasks "tasks" (eVar 0)) (aNil))) (eC (.int 1)))))))
def M_begin : List D → Sto → Res D := fnM 6 m_begin
theorem sc_begin : FnScope ["runtime", "function", "values", "steps", "found", "machine"] ["runtime", "function", "values", "steps"] (defScope s_begin) := ⟨rfl, rfl, rfl, by decide +kernel, rfl, by decide +kernel, by decide +kernel⟩
theorem d_begin (F : Fx K w mg) : FnA P w K mg base (He.ga K "begin") ["runtime", "function", "values", "steps"] [.int 1000] 7 M_begin := by
  obtain ⟨fd, F1⟩ := F.def_ 59 (d := dd_begin)
  have F0 : FunD K "begin" "begin" (defArgs s_begin) (defBody s_begin) (defScope s_begin) [] [("steps", .int 1000)] (He.ga K "begin") fd := F1
  obtain ⟨ds, r, b⟩ := FunD.binds0 (ps := ["runtime", "function", "values", "steps"]) F0 3 (List.cons_ne_nil _ _) rfl fun D doc pm an cdv ct us ks h1 h2 => (match us, ks, h1, h2 with | [_, _, _], [_], _, _ => ⟨_, _, _, _, _, _, rfl, rfl, rfl⟩)
  refine fnA_of F0 sc_begin b r (fun R H => .cons (.int _) (.nil)) fun cdv A outer s H E hr => ?_
  have g : Ge (cxOf (L2.CX P w) P w K mg base ["runtime", "function", "values", "steps", "found", "machine"] "begin" (defScope s_begin) (He.ga K "begin") cdv A outer s H E) 6 := ⟨rfl, hr, sc_begin.nd⟩
  have po : PassesOwn (model P w) (A.deeper (envOfC "begin" (defScope s_begin) s.heap.objs.size (He.ga K "begin") cdv)) (envOfC "begin" (defScope s_begin) s.heap.objs.size (He.ga K "begin") cdv) (cxOf (L2.CX P w) P w K mg base ["runtime", "function", "values", "steps", "found", "machine"] "begin" (defScope s_begin) (He.ga K "begin") cdv A outer s H E).xe := PassesOwn.leaving
  exact (ss_cons (setv g (se_call (d_world_for F) g.hr rfl (g_world_for F) (sa_cons v (sa_cons v (sa_cons v (sa_cons se_non (sa_cons v sa_nil)))))))
  (ss_cons (setv g (se_make (mk_Machine F) (d_Machine___init__ F) g.hr rfl (g_Machine F) (sa_cons v (sa_cons v (sa_cons (se_bare (mb_Follower F) rfl (g_Follower F)) sa_nil)))))
  (ss_cons (ss_expr (se_meth v (c_Machine F) (mt_Machine_begin F) (d_Machine_begin F) g.hr (sa_cons v (sa_cons v (sa_cons v sa_nil)))))
  (ss_cons (ss_expr (se_bm PySem.F.plainAttrs_list PySem.F.slot_list_append PySem.F.type_list_append s_append (se_fld v (f_tasks F)) (sa_cons v sa_nil)))
  (ss_one (ss_ret (se_bin s_sub (se_callB s_len rfl (n_len F) bt_len (sa_cons (se_fld v (f_tasks F)) sa_nil)) se_int)))))))
def m_task_of : MS := sSeq (sIf (tNot (tOf (eCall 3 [] M_is_between (aCons (eVar 1) (aCons (eC (.int 0)) (aCons (eOp2 oSub (eN oLen (aCons (eFld cs_tasks "tasks" (eVar 0)) (aNil))) (eC (.int 1))) (aNil))))))) (sRaise "NoTask" "task" (eVar 1)) (sNil)) (sRet (eOp2 oIX (eFld cs_tasks "tasks" (eVar 0)) (eVar 1)))
def M_task_of : List D → Sto → Res D := fnM 2 m_task_of
theorem sc_task_of : FnScope ["runtime", "task"] ["runtime", "task"] (defScope s_task_of) := ⟨rfl, rfl, rfl, by decide +kernel, rfl, by decide +kernel, by decide +kernel⟩
theorem d_task_of (F : Fx K w mg) : FnA P w K mg base (He.ga K "task_of") ["runtime", "task"] [] 3 M_task_of := by
  obtain ⟨fd, F1⟩ := F.def_ 60 (d := dd_task_of)
  have F0 : FunD K "task_of" "task_of" (defArgs s_task_of) (defBody s_task_of) (defScope s_task_of) [] [] (He.ga K "task_of") fd := F1
  refine fnA_of F0 sc_task_of (FunD.bindsN F0 fun _ _ _ _ _ _ us hl => match us, hl with | [_, _], _ => rfl) .nil (fun _ _ => .nil) fun cdv A outer s H E hr => ?_
  have g : Ge (cxOf (L2.CX P w) P w K mg base ["runtime", "task"] "task_of" (defScope s_task_of) (He.ga K "task_of") cdv A outer s H E) 2 := ⟨rfl, hr, sc_task_of.nd⟩
  have po : PassesOwn (model P w) (A.deeper (envOfC "task_of" (defScope s_task_of) s.heap.objs.size (He.ga K "task_of") cdv)) (envOfC "task_of" (defScope s_task_of) s.heap.objs.size (He.ga K "task_of") cdv) (cxOf (L2.CX P w) P w K mg base ["runtime", "task"] "task_of" (defScope s_task_of) (He.ga K "task_of") cdv A outer s H E).xe := PassesOwn.leaving
  exact (ss_cons (ss_if (st_not (st_val (se_call (d_is_between F) g.hr rfl (g_is_between F) (sa_cons v (sa_cons se_int (sa_cons (se_bin s_sub (se_callB s_len rfl (n_len F) bt_len (sa_cons (se_fld v (f_tasks F)) sa_nil)) se_int) sa_nil)))))) (ss_one (ss_raise (x_NoTask F) g.hc g.hr rfl (g_NoTask F) v)) ss_nil)
  (ss_one (ss_ret (se_ix (r_ix g) (se_fld v (f_tasks F)) v))))
def m_advance : MS := sSeq (sSet 3 (eCall 2 [] M_task_of (aCons (eVar 0) (aCons (eVar 1) (aNil))))) (sSeq (sIf (tOr (tNot (tOf (eCall 1 [] M_is_integer (aCons (eVar 2) (aNil))))) (tOf (eOp2 oLt (eVar 2) (eC (.int 0))))) (sRaise "NoSteps" "steps" (eVar 2)) (sNil)) (sSeq (sExpr (eMeth "Machine" "go" 2 M_Machine_go (eVar 3) (aCons (eVar 2) (aNil)))) (sRet (eFld cs_has_ended "has_ended" (eVar 3)))))
def M_advance : List D → Sto → Res D := fnM 4 m_advance
theorem sc_advance : FnScope ["runtime", "task", "count", "machine"] ["runtime", "task", "count"] (defScope s_advance) := ⟨rfl, rfl, rfl, by decide +kernel, rfl, by decide +kernel, by decide +kernel⟩
theorem d_advance (F : Fx K w mg) : FnA P w K mg base (He.ga K "advance") ["runtime", "task", "count"] [] 9 M_advance := by
  obtain ⟨fd, F1⟩ := F.def_ 61 (d := dd_advance)
  have F0 : FunD K "advance" "advance" (defArgs s_advance) (defBody s_advance) (defScope s_advance) [] [] (He.ga K "advance") fd := F1
  refine fnA_of F0 sc_advance (FunD.bindsN F0 fun _ _ _ _ _ _ us hl => match us, hl with | [_, _, _], _ => rfl) .nil (fun _ _ => .nil) fun cdv A outer s H E hr => ?_
  have g : Ge (cxOf (L2.CX P w) P w K mg base ["runtime", "task", "count", "machine"] "advance" (defScope s_advance) (He.ga K "advance") cdv A outer s H E) 8 := ⟨rfl, hr, sc_advance.nd⟩
  have po : PassesOwn (model P w) (A.deeper (envOfC "advance" (defScope s_advance) s.heap.objs.size (He.ga K "advance") cdv)) (envOfC "advance" (defScope s_advance) s.heap.objs.size (He.ga K "advance") cdv) (cxOf (L2.CX P w) P w K mg base ["runtime", "task", "count", "machine"] "advance" (defScope s_advance) (He.ga K "advance") cdv A outer s H E).xe := PassesOwn.leaving
  exact (ss_cons (setv g (se_call (d_task_of F) g.hr rfl (g_task_of F) (sa_cons v (sa_cons v sa_nil))))
  (ss_cons (ss_if (st_w (sw_or (st_not (st_val (se_call (d_is_integer F) g.hr rfl (g_is_integer F) (sa_cons v sa_nil)))) (sw_or1 (st_cmp s_lt v se_int)))) (ss_one (ss_raise (x_NoSteps F) g.hc g.hr rfl (g_NoSteps F) v)) ss_nil)
  (ss_cons (ss_expr (se_meth v (c_Machine F) (mt_Machine_go F) (d_Machine_go F) g.hr (sa_cons v sa_nil)))
  (ss_one (ss_ret (se_fld v (f_has_ended F)))))))
def m_result : MS := sSeq (sSet 2 (eCall 2 [] M_task_of (aCons (eVar 0) (aCons (eVar 1) (aNil))))) (sSeq (sIf (tNot (tOf (eFld cs_has_ended "has_ended" (eVar 2)))) (sNever) (sNil)) (sRet (eMeth "Machine" "ending" 1 M_Machine_ending (eVar 2) aNil)))
def M_result : List D → Sto → Res D := fnM 3 m_result
theorem sc_result : FnScope ["runtime", "task", "machine"] ["runtime", "task"] (defScope s_result) := ⟨rfl, rfl, rfl, by decide +kernel, rfl, by decide +kernel, by decide +kernel⟩
theorem d_result (F : Fx K w mg) : FnA P w K mg base (He.ga K "result") ["runtime", "task"] [] 4 M_result := by
  obtain ⟨fd, F1⟩ := F.def_ 62 (d := dd_result)
  have F0 : FunD K "result" "result" (defArgs s_result) (defBody s_result) (defScope s_result) [] [] (He.ga K "result") fd := F1
  refine fnA_of F0 sc_result (FunD.bindsN F0 fun _ _ _ _ _ _ us hl => match us, hl with | [_, _], _ => rfl) .nil (fun _ _ => .nil) fun cdv A outer s H E hr => ?_
  have g : Ge (cxOf (L2.CX P w) P w K mg base ["runtime", "task", "machine"] "result" (defScope s_result) (He.ga K "result") cdv A outer s H E) 3 := ⟨rfl, hr, sc_result.nd⟩
  have po : PassesOwn (model P w) (A.deeper (envOfC "result" (defScope s_result) s.heap.objs.size (He.ga K "result") cdv)) (envOfC "result" (defScope s_result) s.heap.objs.size (He.ga K "result") cdv) (cxOf (L2.CX P w) P w K mg base ["runtime", "task", "machine"] "result" (defScope s_result) (He.ga K "result") cdv A outer s H E).xe := PassesOwn.leaving
  exact (ss_cons (setv g (se_call (d_task_of F) g.hr rfl (g_task_of F) (sa_cons v (sa_cons v sa_nil))))
  (ss_cons (ss_if (st_not (st_val (se_fld v (f_has_ended F)))) (ss_one ss_never) ss_nil)
  (ss_one (ss_ret (se_meth0 v (c_Machine F) (mt_Machine_ending F) (d_Machine_ending F) g.hr)))))
def m_call : MS := sSeq (sSet 5 (eCall 5 [] M_world_for (aCons (eVar 0) (aCons (eVar 1) (aCons (eVar 2) (aCons (eVar 3) (aCons (eVar 4) (aNil)))))))) (sNever)
def M_call : List D → Sto → Res D := fnM 6 m_call
theorem sc_call : FnScope ["runtime", "function", "values", "world", "steps", "found"] ["runtime", "function", "values", "world", "steps"] (defScope s_call) := ⟨rfl, rfl, rfl, by decide +kernel, rfl, by decide +kernel, by decide +kernel⟩
theorem d_call (F : Fx K w mg) : FnA P w K mg base (He.ga K "call") ["runtime", "function", "values", "world", "steps"] [.non, .int 1000] 5 M_call := by
  obtain ⟨fd, F1⟩ := F.def_ 63 (d := dd_call)
  have F0 : FunD K "call" "call" (defArgs s_call) (defBody s_call) (defScope s_call) [] [("world", .non), ("steps", .int 1000)] (He.ga K "call") fd := F1
  obtain ⟨ds, r, b⟩ := FunD.binds0 (ps := ["runtime", "function", "values", "world", "steps"]) F0 3 (List.cons_ne_nil _ _) rfl fun D doc pm an cdv ct us ks h1 h2 => (match us, ks, h1, h2 with | [_, _, _], [_, _], _, _ => ⟨_, _, _, _, _, _, rfl, rfl, _, _, _, _, _, _, rfl, rfl, rfl⟩)
  refine fnA_of F0 sc_call b r (fun R H => .cons (.non) (.cons (.int _) (.nil))) fun cdv A outer s H E hr => ?_
  have g : Ge (cxOf (L2.CX P w) P w K mg base ["runtime", "function", "values", "world", "steps", "found"] "call" (defScope s_call) (He.ga K "call") cdv A outer s H E) 4 := ⟨rfl, hr, sc_call.nd⟩
  have po : PassesOwn (model P w) (A.deeper (envOfC "call" (defScope s_call) s.heap.objs.size (He.ga K "call") cdv)) (envOfC "call" (defScope s_call) s.heap.objs.size (He.ga K "call") cdv) (cxOf (L2.CX P w) P w K mg base ["runtime", "function", "values", "world", "steps", "found"] "call" (defScope s_call) (He.ga K "call") cdv A outer s H E).xe := PassesOwn.leaving
  exact (ss_cons (setv g (se_call (d_world_for F) g.hr rfl (g_world_for F) (sa_cons v (sa_cons v (sa_cons v (sa_cons v (sa_cons v sa_nil)))))))
  (ss_one ss_never))
def m_asked_of : MS := sSeq (sExpr (eCall 1 [] M_check_function (aCons (eVar 1) (aNil)))) (sSeq (sExpr (eCall 2 [] M_check_signature (aCons (eVar 0) (aCons (eVar 2) (aNil))))) (sSeq (sSet 4 (eCall 2 [] M_world_of (aCons (eVar 0) (aCons (eVar 3) (aNil))))) (sNever)))
def M_asked_of : List D → Sto → Res D := fnM 6 m_asked_of
theorem sc_asked_of : FnScope ["runtime", "function", "classes", "world", "number", "name"] ["runtime", "function", "classes", "world"] (defScope s_asked_of) := ⟨rfl, rfl, rfl, by decide +kernel, rfl, by decide +kernel, by decide +kernel⟩
theorem d_asked_of (F : Fx K w mg) : FnA P w K mg base (He.ga K "asked_of") ["runtime", "function", "classes", "world"] [] 5 M_asked_of := by
  obtain ⟨fd, F1⟩ := F.def_ 64 (d := dd_asked_of)
  have F0 : FunD K "asked_of" "asked_of" (defArgs s_asked_of) (defBody s_asked_of) (defScope s_asked_of) [] [] (He.ga K "asked_of") fd := F1
  refine fnA_of F0 sc_asked_of (FunD.bindsN F0 fun _ _ _ _ _ _ us hl => match us, hl with | [_, _, _, _], _ => rfl) .nil (fun _ _ => .nil) fun cdv A outer s H E hr => ?_
  have g : Ge (cxOf (L2.CX P w) P w K mg base ["runtime", "function", "classes", "world", "number", "name"] "asked_of" (defScope s_asked_of) (He.ga K "asked_of") cdv A outer s H E) 4 := ⟨rfl, hr, sc_asked_of.nd⟩
  have po : PassesOwn (model P w) (A.deeper (envOfC "asked_of" (defScope s_asked_of) s.heap.objs.size (He.ga K "asked_of") cdv)) (envOfC "asked_of" (defScope s_asked_of) s.heap.objs.size (He.ga K "asked_of") cdv) (cxOf (L2.CX P w) P w K mg base ["runtime", "function", "classes", "world", "number", "name"] "asked_of" (defScope s_asked_of) (He.ga K "asked_of") cdv A outer s H E).xe := PassesOwn.leaving
  exact (ss_cons (ss_expr (se_call (d_check_function F) g.hr rfl (g_check_function F) (sa_cons v sa_nil)))
  (ss_cons (ss_expr (se_call (d_check_signature F) g.hr rfl (g_check_signature F) (sa_cons v (sa_cons v sa_nil))))
  (ss_cons (setv g (se_call (d_world_of F) g.hr rfl (g_world_of F) (sa_cons v (sa_cons v sa_nil))))
  (ss_one ss_never))))
def m_compile_entry : MS := sSeq (sAsg (.tp ((.nm 4) :: (.nm 5) :: [])) (eCall 4 [] M_asked_of (aCons (eVar 0) (aCons (eVar 1) (aCons (eVar 2) (aCons (eVar 3) (aNil))))))) (sSeq (sNever) (sSeq (sNever) (sNever)))
def M_compile_entry : List D → Sto → Res D := fnM 6 m_compile_entry
theorem sc_compile_entry : FnScope ["runtime", "function", "classes", "world", "solution", "key"] ["runtime", "function", "classes", "world"] (defScope s_compile_entry) := ⟨rfl, rfl, rfl, by decide +kernel, rfl, by decide +kernel, by decide +kernel⟩
theorem d_compile_entry (F : Fx K w mg) : FnA P w K mg base (He.ga K "compile_entry") ["runtime", "function", "classes", "world"] [.non] 6 M_compile_entry := by
  obtain ⟨fd, F1⟩ := F.def_ 65 (d := dd_compile_entry)
  have F0 : FunD K "compile_entry" "compile_entry" (defArgs s_compile_entry) (defBody s_compile_entry) (defScope s_compile_entry) [] [("world", .non)] (He.ga K "compile_entry") fd := F1
  obtain ⟨ds, r, b⟩ := FunD.binds0 (ps := ["runtime", "function", "classes", "world"]) F0 3 (List.cons_ne_nil _ _) rfl fun D doc pm an cdv ct us ks h1 h2 => (match us, ks, h1, h2 with | [_, _, _], [_], _, _ => ⟨_, _, _, _, _, _, rfl, rfl, rfl⟩)
  refine fnA_of F0 sc_compile_entry b r (fun R H => .cons (.non) (.nil)) fun cdv A outer s H E hr => ?_
  have g : Ge (cxOf (L2.CX P w) P w K mg base ["runtime", "function", "classes", "world", "solution", "key"] "compile_entry" (defScope s_compile_entry) (He.ga K "compile_entry") cdv A outer s H E) 5 := ⟨rfl, hr, sc_compile_entry.nd⟩
  have po : PassesOwn (model P w) (A.deeper (envOfC "compile_entry" (defScope s_compile_entry) s.heap.objs.size (He.ga K "compile_entry") cdv)) (envOfC "compile_entry" (defScope s_compile_entry) s.heap.objs.size (He.ga K "compile_entry") cdv) (cxOf (L2.CX P w) P w K mg base ["runtime", "function", "classes", "world", "solution", "key"] "compile_entry" (defScope s_compile_entry) (He.ga K "compile_entry") cdv A outer s H E).xe := PassesOwn.leaving
  exact (ss_cons (ss_asg (se_call (d_asked_of F) g.hr rfl (g_asked_of F) (sa_cons v (sa_cons v (sa_cons v (sa_cons v sa_nil))))) (sg_tup g.hc (sg_cons (tgv g) (sg_cons (tgv g) sg_nil))))
  (ss_cons ss_never
  (ss_cons ss_never
  (ss_one ss_never))))
def m_counts : MS := sSeq (sSet 1 (eN oDict (aCons (eFld cs_made "made" (eVar 0)) (aNil)))) (sSeq (altS (sPutK (eVar 1) (eC (.str "entries")) (eN oLen (aCons (eFld cs_entries "entries" (eVar 0)) (aNil)))) (altS (sPutN (eVar 1) (eC (.str "entries")) (eN oLen (aCons (eFld cs_entries "entries" (eVar 0)) (aNil)))) (sPutL (eVar 1) (eC (.str "entries")) (eN oLen (aCons (eFld cs_entries "entries" (eVar 0)) (aNil)))))) (sRet (eVar 1)))
def M_counts : List D → Sto → Res D := fnM 2 m_counts
theorem sc_counts : FnScope ["runtime", "found"] ["runtime"] (defScope s_counts) := ⟨rfl, rfl, rfl, by decide +kernel, rfl, by decide +kernel, by decide +kernel⟩
theorem d_counts (F : Fx K w mg) : FnA P w K mg base (He.ga K "counts") ["runtime"] [] 1 M_counts := by
  obtain ⟨fd, F1⟩ := F.def_ 66 (d := dd_counts)
  have F0 : FunD K "counts" "counts" (defArgs s_counts) (defBody s_counts) (defScope s_counts) [] [] (He.ga K "counts") fd := F1
  refine fnA_of F0 sc_counts (FunD.bindsN F0 fun _ _ _ _ _ _ us hl => match us, hl with | [_], _ => rfl) .nil (fun _ _ => .nil) fun cdv A outer s H E hr => ?_
  have g : Ge (cxOf (L2.CX P w) P w K mg base ["runtime", "found"] "counts" (defScope s_counts) (He.ga K "counts") cdv A outer s H E) 0 := ⟨rfl, hr, sc_counts.nd⟩
  have po : PassesOwn (model P w) (A.deeper (envOfC "counts" (defScope s_counts) s.heap.objs.size (He.ga K "counts") cdv)) (envOfC "counts" (defScope s_counts) s.heap.objs.size (He.ga K "counts") cdv) (cxOf (L2.CX P w) P w K mg base ["runtime", "found"] "counts" (defScope s_counts) (He.ga K "counts") cdv A outer s H E).xe := PassesOwn.leaving
  exact (ss_cons (setv g (se_callTy s_dict rfl (n_dict F) bt_dict (sa_cons (se_fld v (f_made F)) sa_nil)))
  (ss_cons (ss_alt (ss_putK (by have := g.hu; omega) v se_str (se_callB s_len rfl (n_len F) bt_len (sa_cons (se_fld v (f_entries F)) sa_nil))) (ss_alt (ss_putN g.h64 v se_str (se_callB s_len rfl (n_len F) bt_len (sa_cons (se_fld v (f_entries F)) sa_nil))) (ss_putL v se_str (se_callB s_len rfl (n_len F) bt_len (sa_cons (se_fld v (f_entries F)) sa_nil)))))
  (ss_one (ss_ret v))))
def m_check_changes : MS := sSeq (sIf (tNot (tOf (eN (oIsi tabI) (aCons (eVar 0) (aCons (eC (.ty "list")) (aNil)))))) (sRaise "NoChange" "at" (eC .non)) (sNil)) (sFor 300 (SL.iEnum (aCons (eVar 0) (aNil))) (.tp ((.nm 1) :: (.nm 2) :: [])) (sNever))
def M_check_changes : List D → Sto → Res D := fnM 3 m_check_changes
theorem sc_check_changes : FnScope ["changes", "at", "thing"] ["changes"] (defScope s_check_changes) := ⟨rfl, rfl, rfl, by decide +kernel, rfl, by decide +kernel, by decide +kernel⟩
theorem d_check_changes (F : Fx K w mg) : FnA P w K mg base (He.ga K "check_changes") ["changes"] [] 3 M_check_changes := by
  obtain ⟨fd, F1⟩ := F.def_ 67 (d := dd_check_changes)
  have F0 : FunD K "check_changes" "check_changes" (defArgs s_check_changes) (defBody s_check_changes) (defScope s_check_changes) [] [] (He.ga K "check_changes") fd := F1
  refine fnA_of F0 sc_check_changes (FunD.bindsN F0 fun _ _ _ _ _ _ us hl => match us, hl with | [_], _ => rfl) .nil (fun _ _ => .nil) fun cdv A outer s H E hr => ?_
  have g : Ge (cxOf (L2.CX P w) P w K mg base ["changes", "at", "thing"] "check_changes" (defScope s_check_changes) (He.ga K "check_changes") cdv A outer s H E) 2 := ⟨rfl, hr, sc_check_changes.nd⟩
  have po : PassesOwn (model P w) (A.deeper (envOfC "check_changes" (defScope s_check_changes) s.heap.objs.size (He.ga K "check_changes") cdv)) (envOfC "check_changes" (defScope s_check_changes) s.heap.objs.size (He.ga K "check_changes") cdv) (cxOf (L2.CX P w) P w K mg base ["changes", "at", "thing"] "check_changes" (defScope s_check_changes) (He.ga K "check_changes") cdv A outer s H E).xe := PassesOwn.leaving
  exact (ss_cons (ss_if (st_not (st_val (se_callB (s_isi F.isi) rfl (n_isinstance F) bt_isinstance (sa_cons v (sa_cons (se_ty rfl (n_list F) bt_list) sa_nil))))) (ss_one (ss_raise (x_NoChange F) g.hc g.hr rfl (g_NoChange F) se_non)) ss_nil)
  (ss_one (ss_for po g.hc (si_enum rfl (n_enumerate F) (sa_cons v sa_nil)) (sg_tup g.hc (sg_cons (tgv g) (sg_cons (tgv g) sg_nil))) (ss_one ss_never))))
def m_apply : MS := sSeq (sExpr (eCall 1 [] M_check_changes (aCons (eVar 1) (aNil)))) (sSeq (sNever) (sSeq (sFor 300 (iANY (eVar 1)) (.nm 2) (sNever)) (sRet (eMeth "Runtime" "newest" 1 M_Runtime_newest (eVar 0) aNil))))
def M_apply : List D → Sto → Res D := fnM 3 m_apply
theorem sc_apply : FnScope ["runtime", "changes", "change"] ["runtime", "changes"] (defScope s_apply) := ⟨rfl, rfl, rfl, by decide +kernel, rfl, by decide +kernel, by decide +kernel⟩
theorem d_apply (F : Fx K w mg) : FnA P w K mg base (He.ga K "apply") ["runtime", "changes"] [] 4 M_apply := by
  obtain ⟨fd, F1⟩ := F.def_ 68 (d := dd_apply)
  have F0 : FunD K "apply" "apply" (defArgs s_apply) (defBody s_apply) (defScope s_apply) [] [] (He.ga K "apply") fd := F1
  refine fnA_of F0 sc_apply (FunD.bindsN F0 fun _ _ _ _ _ _ us hl => match us, hl with | [_, _], _ => rfl) .nil (fun _ _ => .nil) fun cdv A outer s H E hr => ?_
  have g : Ge (cxOf (L2.CX P w) P w K mg base ["runtime", "changes", "change"] "apply" (defScope s_apply) (He.ga K "apply") cdv A outer s H E) 3 := ⟨rfl, hr, sc_apply.nd⟩
  have po : PassesOwn (model P w) (A.deeper (envOfC "apply" (defScope s_apply) s.heap.objs.size (He.ga K "apply") cdv)) (envOfC "apply" (defScope s_apply) s.heap.objs.size (He.ga K "apply") cdv) (cxOf (L2.CX P w) P w K mg base ["runtime", "changes", "change"] "apply" (defScope s_apply) (He.ga K "apply") cdv A outer s H E).xe := PassesOwn.leaving
  exact (ss_cons (ss_expr (se_call (d_check_changes F) g.hr rfl (g_check_changes F) (sa_cons v sa_nil)))
  (ss_cons ss_never
  (ss_cons (ss_for po g.hc (i_any v) (tgv g) (ss_one ss_never))
  (ss_one (ss_ret (se_meth0 v (c_Runtime F) (mt_Runtime_newest F) (d_Runtime_newest F) g.hr))))))
def m_is_step : MS := sSeq (sIf (tOr (tNot (tOf (eN (oIsi tabI) (aCons (eVar 0) (aCons (eC (.ty "tuple")) (aNil)))))) (tOr (tOf (eOp2 oEQ (eVar 0) (eTup (aNil)))) (tOr (tNot (tOf (eN (oIsi tabI) (aCons (eOp2 oIX (eVar 0) (eC (.int 0))) (aCons (eC (.ty "str")) (aNil)))))) (tOf (eOp2 (oInG "PERFORMED" tab_PERFORMED true) (eOp2 oIX (eVar 0) (eC (.int 0))) (eC (.gl "PERFORMED"))))))) (sRet (eC (.bl false))) (sNil)) (sSeq (sAsg (.tp ((.nm 1) :: (.nm 2) :: [])) (eSl oSL (eOp2 (oIxG "PERFORMED" tab_PERFORMED) (eC (.gl "PERFORMED")) (eOp2 oIX (eVar 0) (eC (.int 0)))) (pSome (eC (.int 1))) (pNone))) (sSeq (sIf (tOf (eOp2 oEQ (eN oLen (aCons (eVar 0) (aNil))) (eOp2 oPlus (eVar 1) (eC (.int 1))))) (sRet (eC (.bl true))) (sNil)) (sSeq (sIf (tOr (tOf (eOp2 oNE (eN oLen (aCons (eVar 0) (aNil))) (eOp2 oPlus (eVar 1) (eC (.int 2))))) (tNot (tOf (eN (oIsi tabI) (aCons (eOp2 oIX (eVar 0) (eOp1 oNeg (eC (.int 1)))) (aCons (eC (.ty "dict")) (aNil))))))) (sRet (eC (.bl false))) (sNil)) (sRet (eN oAll (aCons (eLk (selOf (eOp2 oIX (eVar 0) (eOp1 oNeg (eC (.int 1))))) (eLc 300 (iANY (eOp2 oIX (eVar 0) (eOp1 oNeg (eC (.int 1))))) (.nm 3) (tYesM) (eAnd (eN (oIsi tabI) (aCons (eVar 3) (aCons (eC (.ty "str")) (aNil)))) (eOp2 oIN (eVar 3) (eVar 2))) [3])) (aNil)))))))
def M_is_step : List D → Sto → Res D := fnM 4 m_is_step
theorem sc_is_step : FnScope ["thing", "many", "names", "key"] ["thing"] (defScope s_is_step) := ⟨rfl, rfl, rfl, by decide +kernel, rfl, by decide +kernel, by decide +kernel⟩
theorem d_is_step (F : Fx K w mg) : FnA P w K mg base (He.ga K "is_step") ["thing"] [] 1 M_is_step := by
  obtain ⟨fd, F1⟩ := F.def_ 69 (d := dd_is_step)
  have F0 : FunD K "is_step" "is_step" (defArgs s_is_step) (defBody s_is_step) (defScope s_is_step) [] [] (He.ga K "is_step") fd := F1
  refine fnA_of F0 sc_is_step (FunD.bindsN F0 fun _ _ _ _ _ _ us hl => match us, hl with | [_], _ => rfl) .nil (fun _ _ => .nil) fun cdv A outer s H E hr => ?_
  have g : Ge (cxOf (L2.CX P w) P w K mg base ["thing", "many", "names", "key"] "is_step" (defScope s_is_step) (He.ga K "is_step") cdv A outer s H E) 0 := ⟨rfl, hr, sc_is_step.nd⟩
  have po : PassesOwn (model P w) (A.deeper (envOfC "is_step" (defScope s_is_step) s.heap.objs.size (He.ga K "is_step") cdv)) (envOfC "is_step" (defScope s_is_step) s.heap.objs.size (He.ga K "is_step") cdv) (cxOf (L2.CX P w) P w K mg base ["thing", "many", "names", "key"] "is_step" (defScope s_is_step) (He.ga K "is_step") cdv A outer s H E).xe := PassesOwn.leaving
  exact (ss_cons (ss_if (st_w (sw_or (st_not (st_val (se_callB (s_isi F.isi) rfl (n_isinstance F) bt_isinstance (sa_cons v (sa_cons (se_ty rfl (n_tuple F) bt_tuple) sa_nil))))) (sw_or (st_cmp (r_eq g) v (se_tup sa_nil)) (sw_or (st_not (st_val (se_callB (s_isi F.isi) rfl (n_isinstance F) bt_isinstance (sa_cons (se_ix (r_ix g) v se_int) (sa_cons (se_ty rfl (n_str F) bt_str) sa_nil))))) (sw_or1 (st_cmp (s_notInG F.tab_PERFORMED) (se_ix (r_ix g) v se_int) (se_gl rfl (g_PERFORMED F)))))))) (ss_one (ss_ret se_bl)) ss_nil)
  (ss_cons (ss_asg (se_sl r_sl (se_ix (s_ixG F.tab_PERFORMED) (se_gl rfl (g_PERFORMED F)) (se_ix (r_ix g) v se_int)) (sp_some se_int) sp_none) (sg_tup g.hc (sg_cons (tgv g) (sg_cons (tgv g) sg_nil))))
  (ss_cons (ss_if (st_cmp (r_eq g) (se_callB s_len rfl (n_len F) bt_len (sa_cons v sa_nil)) (se_bin r_plus v se_int)) (ss_one (ss_ret se_bl)) ss_nil)
  (ss_cons (ss_if (st_w (sw_or (st_cmp (r_ne g) (se_callB s_len rfl (n_len F) bt_len (sa_cons v sa_nil)) (se_bin r_plus v se_int)) (sw_or1 (st_not (st_val (se_callB (s_isi F.isi) rfl (n_isinstance F) bt_isinstance (sa_cons (se_ix (r_ix g) v (se_un s_neg se_int)) (sa_cons (se_ty rfl (n_dict F) bt_dict) sa_nil)))))))) (ss_one (ss_ret se_bl)) ss_nil)
  (ss_one (ss_ret (se_callB (s_all g.hc) rfl (n_all F) bt_all (sa_cons (se_lk (lcG g (own := [("key", 3)]) (i_any (se_ix (r_ix g) v (se_un s_neg se_int))) (by exact blkOk_by (by rfl)) (fun _ _ _ _ _ g => (tgv g)) (fun _ _ _ _ _ g => sts_nil) (fun _ _ _ _ _ g => (se_and (se_callB (s_isi F.isi) rfl (n_isinstance F) bt_isinstance (sa_cons v (sa_cons (se_ty rfl (n_str F) bt_str) sa_nil))) (se_one (se_cmp (r_in g) v v)))))) sa_nil))))))))
def M_is_step_fr : List D → Sto → Res D := frM nFr M_is_step
theorem d_is_step_fr (F : Fx K w mg) : FnA P w K mg base (He.ga K "is_step") ["thing"] [] 1 M_is_step_fr := (d_is_step F).fr nFr
def m__law_no_steps : MS := sSeq (sSet 0 (eTup (aCons (eC (.str "call")) (aCons (eC (.str "f")) (aCons (eTup (aCons (eC (.int 1)) (aNil))) (aNil)))))) (sSeq (sSet 1 (eLst (aCons (eC .non) (aCons (eC (.int 7)) (aCons (eC (.str "call")) (aCons (eLst (aNil)) (aCons (eNewK) (aCons (eTup (aNil)) (aCons (eLst (aCons (eVar 0) (aNil))) (aCons (eN oListOf (aCons (eVar 0) (aNil))) (aCons (eTup (aCons (eC (.int 7)) (aNil))) (aCons (eTup (aCons (eC .non) (aCons (eC (.int 1)) (aNil)))) (aCons (eTup (aCons (eLst (aCons (eC (.str "call")) (aNil))) (aCons (eC (.str "f")) (aCons (eTup (aCons (eC (.int 1)) (aNil))) (aNil))))) (aCons (eTup (aCons (eNewK) (aCons (eC (.int 1)) (aNil)))) (aCons (eTup (aCons (eVar 0) (aNil))) (aNil)))))))))))))))) (sSeq (sSet 1 (eOp2 oPlus (eVar 1) (eLst (aCons (eTup (aCons (eC (.str "")) (aNil))) (aCons (eTup (aCons (eC (.str "Call")) (aCons (eC (.str "f")) (aCons (eTup (aCons (eC (.int 1)) (aNil))) (aNil))))) (aCons (eTup (aCons (eC (.str "calls")) (aCons (eC (.str "f")) (aCons (eTup (aCons (eC (.int 1)) (aNil))) (aNil))))) (aCons (eTup (aCons (eC (.str "do")) (aCons (eLst (aNil)) (aNil)))) (aCons (eTup (aCons (eC (.str "make")) (aCons (eC (.str "a")) (aCons (eTup (aNil)) (aNil))))) (aCons (eTup (aCons (eC (.str "now")) (aNil))) (aNil)))))))))) (sSeq (sSet 1 (eOp2 oPlus (eVar 1) (eLst (aCons (eTup (aCons (eC (.str "classes")) (aNil))) (aCons (eTup (aCons (eC (.str "would_go")) (aCons (eLst (aNil)) (aNil)))) (aCons (eTup (aCons (eC (.str "valid")) (aNil))) (aCons (eTup (aCons (eC (.str "is_valid")) (aCons (eC (.int 0)) (aNil)))) (aCons (eTup (aCons (eC (.str "tells")) (aCons (eTup (aNil)) (aCons (eTup (aNil)) (aNil))))) (aNil))))))))) (sSeq (sSet 1 (eOp2 oPlus (eVar 1) (eLst (aCons (eTup (aCons (eC (.str "inferred")) (aCons (eC (.str "f")) (aCons (eTup (aNil)) (aNil))))) (aCons (eTup (aCons (eC (.str "add_class")) (aNil))) (aCons (eTup (aCons (eC (.str "add_class")) (aCons (eC (.str "b")) (aNil)))) (aCons (eTup (aCons (eC (.str "add_class")) (aCons (eC (.str "b")) (aCons (eC (.str "any")) (aCons (eTup (aNil)) (aNil)))))) (aNil)))))))) (sSeq (sSet 1 (eOp2 oPlus (eVar 1) (eLst (aCons (eTup (aCons (eC (.str "add_class")) (aCons (eC (.str "b")) (aCons (eC (.str "any")) (aCons (eNewK) (aCons (eNewK) (aNil))))))) (aNil))))) (sSeq (sSet 1 (eOp2 oPlus (eVar 1) (eLst (aCons (eTup (aCons (eC (.str "add_class")) (aCons (eC (.str "b")) (aCons (eC (.str "any")) (aCons (eDisp (dCons (eC (.str "field")) (eTup (aNil)) (dNil))) (aNil)))))) (aCons (eTup (aCons (eC (.str "add_class")) (aCons (eC (.str "b")) (aCons (eC (.str "any")) (aCons (eDisp (dCons (eC (.str "fields")) (eTup (aNil)) (dCons (eC (.str "world")) (eC (.int 0)) (dNil)))) (aNil)))))) (aNil)))))) (sSeq (sSet 1 (eOp2 oPlus (eVar 1) (eLst (aCons (eTup (aCons (eC (.str "define")) (aCons (eC (.str "f")) (aCons (eTup (aCons (eC (.str "a")) (aNil))) (aNil))))) (aCons (eTup (aCons (eC (.str "define")) (aCons (eC (.str "f")) (aCons (eTup (aCons (eC (.str "a")) (aNil))) (aCons (eTup (aCons (eC (.str "int")) (aCons (eC (.int 1)) (aNil)))) (aCons (eC (.int 0)) (aNil))))))) (aCons (eTup (aCons (eC (.str "delete")) (aCons (eC (.str "f")) (aNil)))) (aNil))))))) (sSeq (sSet 1 (eOp2 oPlus (eVar 1) (eLst (aCons (eTup (aCons (eC (.str "define")) (aCons (eC (.str "f")) (aCons (eTup (aCons (eC (.str "a")) (aNil))) (aCons (eTup (aCons (eC (.str "int")) (aCons (eC (.int 1)) (aNil)))) (aCons (eDisp (dCons (eC (.str "world")) (eC .non) (dNil))) (aNil))))))) (aCons (eTup (aCons (eC (.str "delete")) (aCons (eC (.str "f")) (aCons (eTup (aCons (eC (.str "a")) (aNil))) (aCons (eDisp (dCons (eC (.str "x")) (eC (.int 1)) (dNil))) (aNil)))))) (aNil)))))) (sSeq (sSet 1 (eOp2 oPlus (eVar 1) (eLst (aCons (eTup (aCons (eC (.str "call")) (aNil))) (aCons (eTup (aCons (eC (.str "call")) (aCons (eC (.str "f")) (aNil)))) (aCons (eTup (aCons (eC (.str "call")) (aCons (eC (.str "f")) (aCons (eTup (aCons (eC (.int 1)) (aNil))) (aCons (eC (.int 0)) (aNil)))))) (aCons (eTup (aCons (eC (.str "call")) (aCons (eC (.str "f")) (aCons (eNewK) (aCons (eTup (aCons (eC (.int 1)) (aNil))) (aNil)))))) (aCons (eOp2 oPlus (eVar 0) (eTup (aCons (eNewK) (aCons (eNewK) (aNil))))) (aNil))))))))) (sSeq (sSet 1 (eOp2 oPlus (eVar 1) (eLst (aCons (eOp2 oPlus (eVar 0) (eTup (aCons (eDisp (dCons (eC (.str "step")) (eC (.int 5)) (dNil))) (aNil)))) (aCons (eOp2 oPlus (eVar 0) (eTup (aCons (eDisp (dCons (eC (.int 0)) (eC (.int 1)) (dNil))) (aNil)))) (aCons (eOp2 oPlus (eVar 0) (eTup (aCons (eOdd0 (eC .non) (eC (.int 1))) (aNil)))) (aCons (eOp2 oPlus (eVar 0) (eTup (aCons (eOdd1 (eTup (aCons (eC (.str "world")) (aNil))) (eC (.int 0))) (aNil)))) (aNil)))))))) (sSeq (sSet 1 (eOp2 oPlus (eVar 1) (eLst (aCons (eTup (aCons (eC (.str "begin")) (aCons (eC (.str "f")) (aCons (eTup (aCons (eC (.int 1)) (aNil))) (aCons (eDisp (dCons (eC (.str "world")) (eC .non) (dNil))) (aNil)))))) (aCons (eTup (aCons (eC (.str "begin")) (aCons (eC (.str "f")) (aCons (eTup (aCons (eC (.int 1)) (aNil))) (aCons (eC (.int 5)) (aNil)))))) (aCons (eTup (aCons (eC (.str "advance")) (aCons (eC (.int 0)) (aNil)))) (aNil))))))) (sSeq (sExpr (eBM "list" oAppend (eVar 1) (aCons (eTup (aCons (eC (.str "advance")) (aCons (eC (.int 0)) (aCons (eC (.int 1)) (aCons (eC (.int 1)) (aNil)))))) (aNil)))) (sSeq (sSet 1 (eOp2 oPlus (eVar 1) (eLst (aCons (eTup (aCons (eC (.str "advance")) (aCons (eC (.int 0)) (aCons (eC (.int 1)) (aCons (eDisp (dCons (eC (.str "count")) (eC (.int 1)) (dNil))) (aNil)))))) (aCons (eTup (aCons (eC (.str "result")) (aNil))) (aCons (eTup (aCons (eC (.str "result")) (aCons (eC (.int 0)) (aCons (eC (.int 0)) (aNil))))) (aCons (eTup (aCons (eC (.str "result")) (aCons (eC (.int 0)) (aCons (eDisp (dCons (eC (.str "task")) (eC (.int 0)) (dNil))) (aNil))))) (aNil)))))))) (sSeq (sSet 1 (eOp2 oPlus (eVar 1) (eLst (aCons (eTup (aCons (eC (.str "compile_entry")) (aCons (eC (.str "f")) (aCons (eTup (aCons (eC (.str "a")) (aNil))) (aCons (eDisp (dCons (eC (.str "steps")) (eC (.int 9)) (dNil))) (aNil)))))) (aCons (eTup (aCons (eC (.str "compile_entry")) (aCons (eC (.str "f")) (aCons (eTup (aCons (eC (.str "a")) (aNil))) (aCons (eC .non) (aNil)))))) (aCons (eTup (aCons (eC (.str "run")) (aCons (eC (.str "f")) (aNil)))) (aNil))))))) (sSeq (sSet 1 (eOp2 oPlus (eVar 1) (eLst (aCons (eTup (aCons (eC (.str "run")) (aCons (eC (.str "f")) (aCons (eTup (aCons (eC (.int 1)) (aNil))) (aCons (eDisp (dCons (eC (.str "worlds")) (eC (.int 0)) (dNil))) (aNil)))))) (aCons (eTup (aCons (eC (.str "apply")) (aNil))) (aCons (eTup (aCons (eC (.str "apply")) (aCons (eLst (aNil)) (aCons (eLst (aNil)) (aNil))))) (aCons (eTup (aCons (eC (.str "apply")) (aCons (eLst (aNil)) (aCons (eDisp (dCons (eC (.str "changes")) (eLst (aNil)) (dNil))) (aNil))))) (aNil)))))))) (sRet (eVar 1)))))))))))))))))
def M__law_no_steps : List D → Sto → Res D := fnM 2 m__law_no_steps
theorem sc__law_no_steps : FnScope ["_law_fine", "_law_found"] [] (defScope s__law_no_steps) := ⟨rfl, rfl, rfl, by decide +kernel, rfl, by decide +kernel, by decide +kernel⟩
theorem d__law_no_steps (F : Fx K w mg) : FnA P w K mg base (He.ga K "_law_no_steps") [] [] 1 M__law_no_steps := by
  obtain ⟨fd, F1⟩ := F.def_ 70 (d := dd__law_no_steps)
  have F0 : FunD K "_law_no_steps" "_law_no_steps" (defArgs s__law_no_steps) (defBody s__law_no_steps) (defScope s__law_no_steps) [] [] (He.ga K "_law_no_steps") fd := F1
  refine fnA_of F0 sc__law_no_steps (FunD.bindsN F0 fun _ _ _ _ _ _ us hl => match us, hl with | [], _ => rfl) .nil (fun _ _ => .nil) fun cdv A outer s H E hr => ?_
  have g : Ge (cxOf (L2.CX P w) P w K mg base ["_law_fine", "_law_found"] "_law_no_steps" (defScope s__law_no_steps) (He.ga K "_law_no_steps") cdv A outer s H E) 0 := ⟨rfl, hr, sc__law_no_steps.nd⟩
  have po : PassesOwn (model P w) (A.deeper (envOfC "_law_no_steps" (defScope s__law_no_steps) s.heap.objs.size (He.ga K "_law_no_steps") cdv)) (envOfC "_law_no_steps" (defScope s__law_no_steps) s.heap.objs.size (He.ga K "_law_no_steps") cdv) (cxOf (L2.CX P w) P w K mg base ["_law_fine", "_law_found"] "_law_no_steps" (defScope s__law_no_steps) (He.ga K "_law_no_steps") cdv A outer s H E).xe := PassesOwn.leaving
  exact (ss_cons (setv g (se_tup (sa_cons se_str (sa_cons se_str (sa_cons (se_tup (sa_cons se_int sa_nil)) sa_nil)))))
  (ss_cons (setv g (se_lst (sa_cons se_non (sa_cons se_int (sa_cons se_str (sa_cons (se_lst sa_nil) (sa_cons se_newK (sa_cons (se_tup sa_nil) (sa_cons (se_lst (sa_cons v sa_nil)) (sa_cons (se_callTy s_listOf rfl (n_list F) bt_list (sa_cons v sa_nil)) (sa_cons (se_tup (sa_cons se_int sa_nil)) (sa_cons (se_tup (sa_cons se_non (sa_cons se_int sa_nil))) (sa_cons (se_tup (sa_cons (se_lst (sa_cons se_str sa_nil)) (sa_cons se_str (sa_cons (se_tup (sa_cons se_int sa_nil)) sa_nil)))) (sa_cons (se_tup (sa_cons se_newK (sa_cons se_int sa_nil))) (sa_cons (se_tup (sa_cons v sa_nil)) sa_nil)))))))))))))))
  (ss_cons (setv g (se_bin r_plus v (se_lst (sa_cons (se_tup (sa_cons se_str sa_nil)) (sa_cons (se_tup (sa_cons se_str (sa_cons se_str (sa_cons (se_tup (sa_cons se_int sa_nil)) sa_nil)))) (sa_cons (se_tup (sa_cons se_str (sa_cons se_str (sa_cons (se_tup (sa_cons se_int sa_nil)) sa_nil)))) (sa_cons (se_tup (sa_cons se_str (sa_cons (se_lst sa_nil) sa_nil))) (sa_cons (se_tup (sa_cons se_str (sa_cons se_str (sa_cons (se_tup sa_nil) sa_nil)))) (sa_cons (se_tup (sa_cons se_str sa_nil)) sa_nil)))))))))
  (ss_cons (setv g (se_bin r_plus v (se_lst (sa_cons (se_tup (sa_cons se_str sa_nil)) (sa_cons (se_tup (sa_cons se_str (sa_cons (se_lst sa_nil) sa_nil))) (sa_cons (se_tup (sa_cons se_str sa_nil)) (sa_cons (se_tup (sa_cons se_str (sa_cons se_int sa_nil))) (sa_cons (se_tup (sa_cons se_str (sa_cons (se_tup sa_nil) (sa_cons (se_tup sa_nil) sa_nil)))) sa_nil))))))))
  (ss_cons (setv g (se_bin r_plus v (se_lst (sa_cons (se_tup (sa_cons se_str (sa_cons se_str (sa_cons (se_tup sa_nil) sa_nil)))) (sa_cons (se_tup (sa_cons se_str sa_nil)) (sa_cons (se_tup (sa_cons se_str (sa_cons se_str sa_nil))) (sa_cons (se_tup (sa_cons se_str (sa_cons se_str (sa_cons se_str (sa_cons (se_tup sa_nil) sa_nil))))) sa_nil)))))))
  (ss_cons (setv g (se_bin r_plus v (se_lst (sa_cons (se_tup (sa_cons se_str (sa_cons se_str (sa_cons se_str (sa_cons se_newK (sa_cons se_newK sa_nil)))))) sa_nil))))
  (ss_cons (setv g (se_bin r_plus v (se_lst (sa_cons (se_tup (sa_cons se_str (sa_cons se_str (sa_cons se_str (sa_cons (se_disp (sd_cons se_str (se_tup sa_nil) sd_nil)) sa_nil))))) (sa_cons (se_tup (sa_cons se_str (sa_cons se_str (sa_cons se_str (sa_cons (se_disp (sd_cons se_str (se_tup sa_nil) (sd_cons se_str se_int sd_nil))) sa_nil))))) sa_nil)))))
  (ss_cons (setv g (se_bin r_plus v (se_lst (sa_cons (se_tup (sa_cons se_str (sa_cons se_str (sa_cons (se_tup (sa_cons se_str sa_nil)) sa_nil)))) (sa_cons (se_tup (sa_cons se_str (sa_cons se_str (sa_cons (se_tup (sa_cons se_str sa_nil)) (sa_cons (se_tup (sa_cons se_str (sa_cons se_int sa_nil))) (sa_cons se_int sa_nil)))))) (sa_cons (se_tup (sa_cons se_str (sa_cons se_str sa_nil))) sa_nil))))))
  (ss_cons (setv g (se_bin r_plus v (se_lst (sa_cons (se_tup (sa_cons se_str (sa_cons se_str (sa_cons (se_tup (sa_cons se_str sa_nil)) (sa_cons (se_tup (sa_cons se_str (sa_cons se_int sa_nil))) (sa_cons (se_disp (sd_cons se_str se_non sd_nil)) sa_nil)))))) (sa_cons (se_tup (sa_cons se_str (sa_cons se_str (sa_cons (se_tup (sa_cons se_str sa_nil)) (sa_cons (se_disp (sd_cons se_str se_int sd_nil)) sa_nil))))) sa_nil)))))
  (ss_cons (setv g (se_bin r_plus v (se_lst (sa_cons (se_tup (sa_cons se_str sa_nil)) (sa_cons (se_tup (sa_cons se_str (sa_cons se_str sa_nil))) (sa_cons (se_tup (sa_cons se_str (sa_cons se_str (sa_cons (se_tup (sa_cons se_int sa_nil)) (sa_cons se_int sa_nil))))) (sa_cons (se_tup (sa_cons se_str (sa_cons se_str (sa_cons se_newK (sa_cons (se_tup (sa_cons se_int sa_nil)) sa_nil))))) (sa_cons (se_bin r_plus v (se_tup (sa_cons se_newK (sa_cons se_newK sa_nil)))) sa_nil))))))))
  (ss_cons (setv g (se_bin r_plus v (se_lst (sa_cons (se_bin r_plus v (se_tup (sa_cons (se_disp (sd_cons se_str se_int sd_nil)) sa_nil))) (sa_cons (se_bin r_plus v (se_tup (sa_cons (se_disp (sd_cons se_int se_int sd_nil)) sa_nil))) (sa_cons (se_bin r_plus v (se_tup (sa_cons (se_odd0 se_non se_int) sa_nil))) (sa_cons (se_bin r_plus v (se_tup (sa_cons (se_odd1 g.h64 (se_tup (sa_cons se_str sa_nil)) se_int) sa_nil))) sa_nil)))))))
  (ss_cons (setv g (se_bin r_plus v (se_lst (sa_cons (se_tup (sa_cons se_str (sa_cons se_str (sa_cons (se_tup (sa_cons se_int sa_nil)) (sa_cons (se_disp (sd_cons se_str se_non sd_nil)) sa_nil))))) (sa_cons (se_tup (sa_cons se_str (sa_cons se_str (sa_cons (se_tup (sa_cons se_int sa_nil)) (sa_cons se_int sa_nil))))) (sa_cons (se_tup (sa_cons se_str (sa_cons se_int sa_nil))) sa_nil))))))
  (ss_cons (ss_expr (se_bm PySem.F.plainAttrs_list PySem.F.slot_list_append PySem.F.type_list_append s_append v (sa_cons (se_tup (sa_cons se_str (sa_cons se_int (sa_cons se_int (sa_cons se_int sa_nil))))) sa_nil)))
  (ss_cons (setv g (se_bin r_plus v (se_lst (sa_cons (se_tup (sa_cons se_str (sa_cons se_int (sa_cons se_int (sa_cons (se_disp (sd_cons se_str se_int sd_nil)) sa_nil))))) (sa_cons (se_tup (sa_cons se_str sa_nil)) (sa_cons (se_tup (sa_cons se_str (sa_cons se_int (sa_cons se_int sa_nil)))) (sa_cons (se_tup (sa_cons se_str (sa_cons se_int (sa_cons (se_disp (sd_cons se_str se_int sd_nil)) sa_nil)))) sa_nil)))))))
  (ss_cons (setv g (se_bin r_plus v (se_lst (sa_cons (se_tup (sa_cons se_str (sa_cons se_str (sa_cons (se_tup (sa_cons se_str sa_nil)) (sa_cons (se_disp (sd_cons se_str se_int sd_nil)) sa_nil))))) (sa_cons (se_tup (sa_cons se_str (sa_cons se_str (sa_cons (se_tup (sa_cons se_str sa_nil)) (sa_cons se_non sa_nil))))) (sa_cons (se_tup (sa_cons se_str (sa_cons se_str sa_nil))) sa_nil))))))
  (ss_cons (setv g (se_bin r_plus v (se_lst (sa_cons (se_tup (sa_cons se_str (sa_cons se_str (sa_cons (se_tup (sa_cons se_int sa_nil)) (sa_cons (se_disp (sd_cons se_str se_int sd_nil)) sa_nil))))) (sa_cons (se_tup (sa_cons se_str sa_nil)) (sa_cons (se_tup (sa_cons se_str (sa_cons (se_lst sa_nil) (sa_cons (se_lst sa_nil) sa_nil)))) (sa_cons (se_tup (sa_cons se_str (sa_cons (se_lst sa_nil) (sa_cons (se_disp (sd_cons se_str (se_lst sa_nil) sd_nil)) sa_nil)))) sa_nil)))))))
  (ss_one (ss_ret v))))))))))))))))))
def m__law_begun : MS := sSeq (sSet 0 (eMake0 "Runtime" M_Runtime___init__)) (sSeq (sExpr (eCall 4 [.tup []] M_add_class (aCons (eVar 0) (aCons (eC (.str "a")) (aCons (eC (.str "any")) (aNil)))))) (sSeq (sExpr (eCall 4 [] M_define (aCons (eVar 0) (aCons (eC (.str "f")) (aCons (eTup (aCons (eC (.str "any")) (aNil))) (aCons (eTup (aCons (eC (.str "add")) (aCons (eTup (aCons (eC (.str "arg")) (aCons (eC (.int 0)) (aNil)))) (aCons (eTup (aCons (eC (.str "int")) (aCons (eC (.int 3)) (aNil)))) (aNil))))) (aNil))))))) (sSeq (sExpr (eCall 4 [.int 1000] M_begin (aCons (eVar 0) (aCons (eC (.str "f")) (aCons (eTup (aCons (eC (.int 4)) (aNil))) (aNil)))))) (sRet (eVar 0)))))
def M__law_begun : List D → Sto → Res D := fnM 1 m__law_begun
theorem sc__law_begun : FnScope ["_law_runtime"] [] (defScope s__law_begun) := ⟨rfl, rfl, rfl, by decide +kernel, rfl, by decide +kernel, by decide +kernel⟩
theorem d__law_begun (F : Fx K w mg) : FnA P w K mg base (He.ga K "_law_begun") [] [] 8 M__law_begun := by
  obtain ⟨fd, F1⟩ := F.def_ 71 (d := dd__law_begun)
  have F0 : FunD K "_law_begun" "_law_begun" (defArgs s__law_begun) (defBody s__law_begun) (defScope s__law_begun) [] [] (He.ga K "_law_begun") fd := F1
  refine fnA_of F0 sc__law_begun (FunD.bindsN F0 fun _ _ _ _ _ _ us hl => match us, hl with | [], _ => rfl) .nil (fun _ _ => .nil) fun cdv A outer s H E hr => ?_
  have g : Ge (cxOf (L2.CX P w) P w K mg base ["_law_runtime"] "_law_begun" (defScope s__law_begun) (He.ga K "_law_begun") cdv A outer s H E) 7 := ⟨rfl, hr, sc__law_begun.nd⟩
  have po : PassesOwn (model P w) (A.deeper (envOfC "_law_begun" (defScope s__law_begun) s.heap.objs.size (He.ga K "_law_begun") cdv)) (envOfC "_law_begun" (defScope s__law_begun) s.heap.objs.size (He.ga K "_law_begun") cdv) (cxOf (L2.CX P w) P w K mg base ["_law_runtime"] "_law_begun" (defScope s__law_begun) (He.ga K "_law_begun") cdv A outer s H E).xe := PassesOwn.leaving
  exact (ss_cons (setv g (se_make0 (mk_Runtime F) (d_Runtime___init__ F) g.hr rfl (g_Runtime F)))
  (ss_cons (ss_expr (se_call (d_add_class F) g.hr rfl (g_add_class F) (sa_cons v (sa_cons se_str (sa_cons se_str sa_nil)))))
  (ss_cons (ss_expr (se_call (d_define F) g.hr rfl (g_define F) (sa_cons v (sa_cons se_str (sa_cons (se_tup (sa_cons se_str sa_nil)) (sa_cons (se_tup (sa_cons se_str (sa_cons (se_tup (sa_cons se_str (sa_cons se_int sa_nil))) (sa_cons (se_tup (sa_cons se_str (sa_cons se_int sa_nil))) sa_nil)))) sa_nil))))))
  (ss_cons (ss_expr (se_call (d_begin F) g.hr rfl (g_begin F) (sa_cons v (sa_cons se_str (sa_cons (se_tup (sa_cons se_int sa_nil)) sa_nil)))))
  (ss_one (ss_ret v))))))
def m__law_well : MS := sRet (eLst (aCons (eOp2 oMul (eVar 0) (eN oInt (aCons (eOp2 oGe (eVar 0) (eOp2 oPow (eC (.int 10)) (eC (.int 18)))) (aNil)))) (aCons (eOp2 oMod (eN oInt (aCons (eVar 0) (aNil))) (eC (.int 2147483647))) (aCons (eC (.int 0)) (aNil)))))
def M__law_well : List D → Sto → Res D := fnM 1 m__law_well
theorem sc__law_well : FnScope ["_law_cell"] ["_law_cell"] (defScope s__law_well) := ⟨rfl, rfl, rfl, by decide +kernel, rfl, by decide +kernel, by decide +kernel⟩
theorem d__law_well (F : Fx K w mg) : FnA P w K mg base (He.ga K "_law_well") ["_law_cell"] [] 1 M__law_well := by
  obtain ⟨fd, F1⟩ := F.def_ 72 (d := dd__law_well)
  have F0 : FunD K "_law_well" "_law_well" (defArgs s__law_well) (defBody s__law_well) (defScope s__law_well) [] [] (He.ga K "_law_well") fd := F1
  refine fnA_of F0 sc__law_well (FunD.bindsN F0 fun _ _ _ _ _ _ us hl => match us, hl with | [_], _ => rfl) .nil (fun _ _ => .nil) fun cdv A outer s H E hr => ?_
  have g : Ge (cxOf (L2.CX P w) P w K mg base ["_law_cell"] "_law_well" (defScope s__law_well) (He.ga K "_law_well") cdv A outer s H E) 0 := ⟨rfl, hr, sc__law_well.nd⟩
  have po : PassesOwn (model P w) (A.deeper (envOfC "_law_well" (defScope s__law_well) s.heap.objs.size (He.ga K "_law_well") cdv)) (envOfC "_law_well" (defScope s__law_well) s.heap.objs.size (He.ga K "_law_well") cdv) (cxOf (L2.CX P w) P w K mg base ["_law_cell"] "_law_well" (defScope s__law_well) (He.ga K "_law_well") cdv A outer s H E).xe := PassesOwn.leaving
  exact (ss_one (ss_ret (se_lst (sa_cons (se_bin s_mul v (se_callTy s_int rfl (n_int F) bt_int (sa_cons (se_cmp s_ge v (se_bin s_pow se_int se_int)) sa_nil))) (sa_cons (se_bin s_mod (se_callTy s_int rfl (n_int F) bt_int (sa_cons v sa_nil)) se_int) (sa_cons se_int sa_nil))))))
def m__law_draw : MS := sSeq (sIf (tOf (eOp2 oGt (eOp2 oIX (eVar 0) (eC (.int 0))) (eC (.int 0)))) (sSeq (sSet 2 (eOp2 oMod (eN oInt (aCons (eOp2 oIX (eVar 0) (eC (.int 0))) (aNil))) (eVar 1))) (sSeq (altS (sPutK (eVar 0) (eC (.int 0)) (eOp2 oFdv (eOp2 oIX (eVar 0) (eC (.int 0))) (eVar 1))) (altS (sPutN (eVar 0) (eC (.int 0)) (eOp2 oFdv (eOp2 oIX (eVar 0) (eC (.int 0))) (eVar 1))) (sPutL (eVar 0) (eC (.int 0)) (eOp2 oFdv (eOp2 oIX (eVar 0) (eC (.int 0))) (eVar 1))))) (sRet (eVar 2)))) (sNil)) (sSeq (altS (sPutK (eVar 0) (eC (.int 2)) (eOp2 oPlus (eOp2 oIX (eVar 0) (eC (.int 2))) (eC (.int 1)))) (altS (sPutN (eVar 0) (eC (.int 2)) (eOp2 oPlus (eOp2 oIX (eVar 0) (eC (.int 2))) (eC (.int 1)))) (sPutL (eVar 0) (eC (.int 2)) (eOp2 oPlus (eOp2 oIX (eVar 0) (eC (.int 2))) (eC (.int 1)))))) (sSeq (sSet 3 (eOp2 oMod (eN oInt (aCons (eOp2 oPow (eOp2 oPlus (eOp2 oPlus (eOp2 oIX (eVar 0) (eC (.int 1))) (eOp2 oMul (eC (.int 15013)) (eOp2 oIX (eVar 0) (eC (.int 2))))) (eC (.int 7))) (eC (.int 3))) (aNil))) (eC (.int 2147483587)))) (sSeq (sSet 3 (eOp2 oMod (eN oInt (aCons (eOp2 oMul (eOp2 oPlus (eVar 3) (eOp2 oMul (eC (.int 4057)) (eOp2 oIX (eVar 0) (eC (.int 2))))) (eOp2 oPlus (eOp2 oFdv (eVar 3) (eC (.int 1013))) (eC (.int 52361)))) (aNil))) (eC (.int 2147483549)))) (sRet (eOp2 oMod (eN oInt (aCons (eOp2 oFdv (eOp2 oMod (eN oInt (aCons (eOp2 oMul (eVar 3) (eOp2 oPlus (eOp2 oFdv (eVar 3) (eC (.int 2003))) (eC (.int 61403)))) (aNil))) (eC (.int 2147483489))) (eC (.int 11))) (aNil))) (eVar 1))))))
def M__law_draw : List D → Sto → Res D := fnM 4 m__law_draw
theorem sc__law_draw : FnScope ["_law_well_here", "_law_many", "_law_digit", "_law_number"] ["_law_well_here", "_law_many"] (defScope s__law_draw) := ⟨rfl, rfl, rfl, by decide +kernel, rfl, by decide +kernel, by decide +kernel⟩
theorem d__law_draw (F : Fx K w mg) : FnA P w K mg base (He.ga K "_law_draw") ["_law_well_here", "_law_many"] [] 1 M__law_draw := by
  obtain ⟨fd, F1⟩ := F.def_ 73 (d := dd__law_draw)
  have F0 : FunD K "_law_draw" "_law_draw" (defArgs s__law_draw) (defBody s__law_draw) (defScope s__law_draw) [] [] (He.ga K "_law_draw") fd := F1
  refine fnA_of F0 sc__law_draw (FunD.bindsN F0 fun _ _ _ _ _ _ us hl => match us, hl with | [_, _], _ => rfl) .nil (fun _ _ => .nil) fun cdv A outer s H E hr => ?_
  have g : Ge (cxOf (L2.CX P w) P w K mg base ["_law_well_here", "_law_many", "_law_digit", "_law_number"] "_law_draw" (defScope s__law_draw) (He.ga K "_law_draw") cdv A outer s H E) 0 := ⟨rfl, hr, sc__law_draw.nd⟩
  have po : PassesOwn (model P w) (A.deeper (envOfC "_law_draw" (defScope s__law_draw) s.heap.objs.size (He.ga K "_law_draw") cdv)) (envOfC "_law_draw" (defScope s__law_draw) s.heap.objs.size (He.ga K "_law_draw") cdv) (cxOf (L2.CX P w) P w K mg base ["_law_well_here", "_law_many", "_law_digit", "_law_number"] "_law_draw" (defScope s__law_draw) (He.ga K "_law_draw") cdv A outer s H E).xe := PassesOwn.leaving
  exact (ss_cons (ss_if (st_cmp s_gt (se_ix (r_ix g) v se_int) se_int) (ss_cons (setv g (se_bin s_mod (se_callTy s_int rfl (n_int F) bt_int (sa_cons (se_ix (r_ix g) v se_int) sa_nil)) v))
  (ss_cons (ss_alt (ss_putK (by have := g.hu; omega) v se_int (se_bin s_fdv (se_ix (r_ix g) v se_int) v)) (ss_alt (ss_putN g.h64 v se_int (se_bin s_fdv (se_ix (r_ix g) v se_int) v)) (ss_putL v se_int (se_bin s_fdv (se_ix (r_ix g) v se_int) v))))
  (ss_one (ss_ret v)))) ss_nil)
  (ss_cons (ss_alt (ss_putK (by have := g.hu; omega) v se_int (se_bin r_plus (se_ix (r_ix g) v se_int) se_int)) (ss_alt (ss_putN g.h64 v se_int (se_bin r_plus (se_ix (r_ix g) v se_int) se_int)) (ss_putL v se_int (se_bin r_plus (se_ix (r_ix g) v se_int) se_int))))
  (ss_cons (setv g (se_bin s_mod (se_callTy s_int rfl (n_int F) bt_int (sa_cons (se_bin s_pow (se_bin r_plus (se_bin r_plus (se_ix (r_ix g) v se_int) (se_bin s_mul se_int (se_ix (r_ix g) v se_int))) se_int) se_int) sa_nil)) se_int))
  (ss_cons (setv g (se_bin s_mod (se_callTy s_int rfl (n_int F) bt_int (sa_cons (se_bin s_mul (se_bin r_plus v (se_bin s_mul se_int (se_ix (r_ix g) v se_int))) (se_bin r_plus (se_bin s_fdv v se_int) se_int)) sa_nil)) se_int))
  (ss_one (ss_ret (se_bin s_mod (se_callTy s_int rfl (n_int F) bt_int (sa_cons (se_bin s_fdv (se_bin s_mod (se_callTy s_int rfl (n_int F) bt_int (sa_cons (se_bin s_mul v (se_bin r_plus (se_bin s_fdv v se_int) se_int)) sa_nil)) se_int) se_int) sa_nil)) v)))))))
def m__law_one : MS := sRet (eOp2 oIX (eVar 1) (eCall 2 [] M__law_draw (aCons (eVar 0) (aCons (eN oLen (aCons (eVar 1) (aNil))) (aNil)))))
def M__law_one : List D → Sto → Res D := fnM 2 m__law_one
theorem sc__law_one : FnScope ["_law_well_here", "_law_some"] ["_law_well_here", "_law_some"] (defScope s__law_one) := ⟨rfl, rfl, rfl, by decide +kernel, rfl, by decide +kernel, by decide +kernel⟩
theorem d__law_one (F : Fx K w mg) : FnA P w K mg base (He.ga K "_law_one") ["_law_well_here", "_law_some"] [] 2 M__law_one := by
  obtain ⟨fd, F1⟩ := F.def_ 74 (d := dd__law_one)
  have F0 : FunD K "_law_one" "_law_one" (defArgs s__law_one) (defBody s__law_one) (defScope s__law_one) [] [] (He.ga K "_law_one") fd := F1
  refine fnA_of F0 sc__law_one (FunD.bindsN F0 fun _ _ _ _ _ _ us hl => match us, hl with | [_, _], _ => rfl) .nil (fun _ _ => .nil) fun cdv A outer s H E hr => ?_
  have g : Ge (cxOf (L2.CX P w) P w K mg base ["_law_well_here", "_law_some"] "_law_one" (defScope s__law_one) (He.ga K "_law_one") cdv A outer s H E) 1 := ⟨rfl, hr, sc__law_one.nd⟩
  have po : PassesOwn (model P w) (A.deeper (envOfC "_law_one" (defScope s__law_one) s.heap.objs.size (He.ga K "_law_one") cdv)) (envOfC "_law_one" (defScope s__law_one) s.heap.objs.size (He.ga K "_law_one") cdv) (cxOf (L2.CX P w) P w K mg base ["_law_well_here", "_law_some"] "_law_one" (defScope s__law_one) (He.ga K "_law_one") cdv A outer s H E).xe := PassesOwn.leaving
  exact (ss_one (ss_ret (se_ix (r_ix g) v (se_call (d__law_draw F) g.hr rfl (g__law_draw F) (sa_cons v (sa_cons (se_callB s_len rfl (n_len F) bt_len (sa_cons v sa_nil)) sa_nil))))))
def m__law_steps : MS := sSeq (sSet 1 (eLst (aCons (eTup (aCons (eC (.str "call")) (aCons (eC (.str "f")) (aCons (eTup (aCons (eC (.int 1)) (aNil))) (aNil))))) (aCons (eTup (aCons (eC (.str "call")) (aCons (eC (.str "f")) (aCons (eTup (aCons (eC (.int 1)) (aNil))) (aCons (eNewK) (aNil)))))) (aCons (eTup (aCons (eC (.str "call")) (aCons (eC .non) (aCons (eNewK) (aCons (eDisp (dCons (eC (.str "steps")) (eC (.int 0)) (dCons (eC (.str "world")) (eC (.str "no")) (dNil)))) (aNil)))))) (aNil)))))) (sSeq (sSet 1 (eOp2 oPlus (eVar 1) (eLst (aCons (eTup (aCons (eC (.str "define")) (aCons (eC (.str "f")) (aCons (eTup (aCons (eC (.str "any")) (aNil))) (aCons (eTup (aCons (eC (.str "int")) (aCons (eC (.int 8)) (aNil)))) (aNil)))))) (aCons (eTup (aCons (eC (.str "define")) (aCons (eNewK) (aCons (eNewK) (aCons (eNewK) (aNil)))))) (aCons (eTup (aCons (eC (.str "define")) (aCons (eNewK) (aCons (eNewK) (aCons (eNewK) (aCons (eNewK) (aNil))))))) (aNil))))))) (sSeq (sSet 1 (eOp2 oPlus (eVar 1) (eLst (aCons (eTup (aCons (eC (.str "delete")) (aCons (eC (.str "f")) (aCons (eNewK) (aNil))))) (aCons (eTup (aCons (eC (.str "begin")) (aCons (eC (.str "f")) (aCons (eTup (aCons (eC (.int 2)) (aNil))) (aCons (eDisp (dCons (eC (.str "steps")) (eC (.int 3)) (dNil))) (aNil)))))) (aCons (eTup (aCons (eC (.str "advance")) (aCons (eC (.int 0)) (aCons (eNewK) (aNil))))) (aCons (eTup (aCons (eC (.str "advance")) (aCons (eNewK) (aCons (eC (.int 1)) (aCons (eNewK) (aNil)))))) (aNil)))))))) (sSeq (sSet 1 (eOp2 oPlus (eVar 1) (eLst (aCons (eTup (aCons (eC (.str "result")) (aCons (eNewK) (aNil)))) (aCons (eTup (aCons (eC (.str "result")) (aCons (eC (.int 0)) (aCons (eNewK) (aNil))))) (aCons (eTup (aCons (eC (.str "add_class")) (aCons (eC (.str "c")) (aCons (eC (.str "any")) (aCons (eDisp (dCons (eC (.str "fields")) (eTup (aNil)) (dNil))) (aNil)))))) (aCons (eTup (aCons (eC (.str "add_class")) (aCons (eLst (aNil)) (aCons (eNewK) (aNil))))) (aNil)))))))) (sSeq (sSet 1 (eOp2 oPlus (eVar 1) (eLst (aCons (eTup (aCons (eC (.str "compile_entry")) (aCons (eC (.str "f")) (aCons (eTup (aCons (eC (.str "a")) (aNil))) (aCons (eDisp (dCons (eC (.str "world")) (eC .non) (dNil))) (aNil)))))) (aCons (eTup (aCons (eC (.str "run")) (aCons (eC (.str "f")) (aCons (eTup (aCons (eC (.int 1)) (aNil))) (aNil))))) (aCons (eTup (aCons (eC (.str "apply")) (aCons (eNewK) (aNil)))) (aCons (eTup (aCons (eC (.str "apply")) (aCons (eLst (aNil)) (aNil)))) (aNil)))))))) (sRet (eLc 300 (iRange1 (aCons (eCall 2 [] M__law_draw (aCons (eVar 0) (aCons (eC (.int 7)) (aNil)))) (aNil))) (.nm 2) (tYesM) (eCall 2 [] M__law_one (aCons (eVar 0) (aCons (eVar 1) (aNil)))) [2]))))))
def M__law_steps : List D → Sto → Res D := fnM 3 m__law_steps
theorem sc__law_steps : FnScope ["_law_well_here", "_law_some", "_law_k"] ["_law_well_here"] (defScope s__law_steps) := ⟨rfl, rfl, rfl, by decide +kernel, rfl, by decide +kernel, by decide +kernel⟩
theorem d__law_steps (F : Fx K w mg) : FnA P w K mg base (He.ga K "_law_steps") ["_law_well_here"] [] 3 M__law_steps := by
  obtain ⟨fd, F1⟩ := F.def_ 75 (d := dd__law_steps)
  have F0 : FunD K "_law_steps" "_law_steps" (defArgs s__law_steps) (defBody s__law_steps) (defScope s__law_steps) [] [] (He.ga K "_law_steps") fd := F1
  refine fnA_of F0 sc__law_steps (FunD.bindsN F0 fun _ _ _ _ _ _ us hl => match us, hl with | [_], _ => rfl) .nil (fun _ _ => .nil) fun cdv A outer s H E hr => ?_
  have g : Ge (cxOf (L2.CX P w) P w K mg base ["_law_well_here", "_law_some", "_law_k"] "_law_steps" (defScope s__law_steps) (He.ga K "_law_steps") cdv A outer s H E) 2 := ⟨rfl, hr, sc__law_steps.nd⟩
  have po : PassesOwn (model P w) (A.deeper (envOfC "_law_steps" (defScope s__law_steps) s.heap.objs.size (He.ga K "_law_steps") cdv)) (envOfC "_law_steps" (defScope s__law_steps) s.heap.objs.size (He.ga K "_law_steps") cdv) (cxOf (L2.CX P w) P w K mg base ["_law_well_here", "_law_some", "_law_k"] "_law_steps" (defScope s__law_steps) (He.ga K "_law_steps") cdv A outer s H E).xe := PassesOwn.leaving
  exact (ss_cons (setv g (se_lst (sa_cons (se_tup (sa_cons se_str (sa_cons se_str (sa_cons (se_tup (sa_cons se_int sa_nil)) sa_nil)))) (sa_cons (se_tup (sa_cons se_str (sa_cons se_str (sa_cons (se_tup (sa_cons se_int sa_nil)) (sa_cons se_newK sa_nil))))) (sa_cons (se_tup (sa_cons se_str (sa_cons se_non (sa_cons se_newK (sa_cons (se_disp (sd_cons se_str se_int (sd_cons se_str se_str sd_nil))) sa_nil))))) sa_nil)))))
  (ss_cons (setv g (se_bin r_plus v (se_lst (sa_cons (se_tup (sa_cons se_str (sa_cons se_str (sa_cons (se_tup (sa_cons se_str sa_nil)) (sa_cons (se_tup (sa_cons se_str (sa_cons se_int sa_nil))) sa_nil))))) (sa_cons (se_tup (sa_cons se_str (sa_cons se_newK (sa_cons se_newK (sa_cons se_newK sa_nil))))) (sa_cons (se_tup (sa_cons se_str (sa_cons se_newK (sa_cons se_newK (sa_cons se_newK (sa_cons se_newK sa_nil)))))) sa_nil))))))
  (ss_cons (setv g (se_bin r_plus v (se_lst (sa_cons (se_tup (sa_cons se_str (sa_cons se_str (sa_cons se_newK sa_nil)))) (sa_cons (se_tup (sa_cons se_str (sa_cons se_str (sa_cons (se_tup (sa_cons se_int sa_nil)) (sa_cons (se_disp (sd_cons se_str se_int sd_nil)) sa_nil))))) (sa_cons (se_tup (sa_cons se_str (sa_cons se_int (sa_cons se_newK sa_nil)))) (sa_cons (se_tup (sa_cons se_str (sa_cons se_newK (sa_cons se_int (sa_cons se_newK sa_nil))))) sa_nil)))))))
  (ss_cons (setv g (se_bin r_plus v (se_lst (sa_cons (se_tup (sa_cons se_str (sa_cons se_newK sa_nil))) (sa_cons (se_tup (sa_cons se_str (sa_cons se_int (sa_cons se_newK sa_nil)))) (sa_cons (se_tup (sa_cons se_str (sa_cons se_str (sa_cons se_str (sa_cons (se_disp (sd_cons se_str (se_tup sa_nil) sd_nil)) sa_nil))))) (sa_cons (se_tup (sa_cons se_str (sa_cons (se_lst sa_nil) (sa_cons se_newK sa_nil)))) sa_nil)))))))
  (ss_cons (setv g (se_bin r_plus v (se_lst (sa_cons (se_tup (sa_cons se_str (sa_cons se_str (sa_cons (se_tup (sa_cons se_str sa_nil)) (sa_cons (se_disp (sd_cons se_str se_non sd_nil)) sa_nil))))) (sa_cons (se_tup (sa_cons se_str (sa_cons se_str (sa_cons (se_tup (sa_cons se_int sa_nil)) sa_nil)))) (sa_cons (se_tup (sa_cons se_str (sa_cons se_newK sa_nil))) (sa_cons (se_tup (sa_cons se_str (sa_cons (se_lst sa_nil) sa_nil))) sa_nil)))))))
  (ss_one (ss_ret (lcG g (own := [("_law_k", 2)]) (si_range1 rfl (n_range F) (sa_cons (se_call (d__law_draw F) g.hr rfl (g__law_draw F) (sa_cons v (sa_cons se_int sa_nil))) sa_nil)) (by exact blkOk_by (by rfl)) (fun _ _ _ _ _ g => (tgv g)) (fun _ _ _ _ _ g => sts_nil) (fun _ _ _ _ _ g => (se_call (d__law_one F) g.hr rfl (g__law_one F) (sa_cons v (sa_cons v sa_nil))))))))))))
def tabP : Str → Option PEnt := fun x =>
  if x = "add_class" then some ⟨4, [.tup []], M_add_class⟩ else
  if x = "define" then some ⟨4, [], M_define⟩ else
  if x = "call" then some ⟨5, [.non, .int 1000], M_call⟩ else
  if x = "begin" then some ⟨4, [.int 1000], M_begin⟩ else
  if x = "advance" then some ⟨3, [], M_advance⟩ else
  if x = "result" then some ⟨2, [], M_result⟩ else
  if x = "compile_entry" then some ⟨4, [.non], M_compile_entry⟩ else
  if x = "apply" then some ⟨2, [], M_apply⟩ else
  none
theorem tabP_ok (F : Fx K w mg) : ∀ x e, tabP x = some e → ∃ ps j, FnA P w K mg base (He.ga K x) ps e.dds j e.m ∧ ps.length = e.n ∧ j ≤ 9 := by
  intro x e h
  unfold tabP at h
  by_cases e1 : x = "add_class"
  · rw [if_pos e1] at h; cases h; subst e1; exact ⟨_, _, d_add_class F, rfl, by decide⟩
  rw [if_neg e1] at h
  by_cases e1 : x = "define"
  · rw [if_pos e1] at h; cases h; subst e1; exact ⟨_, _, d_define F, rfl, by decide⟩
  rw [if_neg e1] at h
  by_cases e1 : x = "call"
  · rw [if_pos e1] at h; cases h; subst e1; exact ⟨_, _, d_call F, rfl, by decide⟩
  rw [if_neg e1] at h
  by_cases e1 : x = "begin"
  · rw [if_pos e1] at h; cases h; subst e1; exact ⟨_, _, d_begin F, rfl, by decide⟩
  rw [if_neg e1] at h
  by_cases e1 : x = "advance"
  · rw [if_pos e1] at h; cases h; subst e1; exact ⟨_, _, d_advance F, rfl, by decide⟩
  rw [if_neg e1] at h
  by_cases e1 : x = "result"
  · rw [if_pos e1] at h; cases h; subst e1; exact ⟨_, _, d_result F, rfl, by decide⟩
  rw [if_neg e1] at h
  by_cases e1 : x = "compile_entry"
  · rw [if_pos e1] at h; cases h; subst e1; exact ⟨_, _, d_compile_entry F, rfl, by decide⟩
  rw [if_neg e1] at h
  by_cases e1 : x = "apply"
  · rw [if_pos e1] at h; cases h; subst e1; exact ⟨_, _, d_apply F, rfl, by decide⟩
  rw [if_neg e1] at h
  cases h
def m_performed : MS := sSeq (sAsg (.tp ((.nm 2) :: (.nm 3) :: [])) (eSl oSL (eOp2 (oIxG "PERFORMED" tab_PERFORMED) (eC (.gl "PERFORMED")) (eOp2 oIX (eVar 1) (eC (.int 0)))) (pNone) (pSome (eC (.int 2))))) (sSeq (sSet 4 (eSl oSL (eVar 1) (pSome (eC (.int 1))) (pSome (eOp2 oPlus (eVar 3) (eC (.int 1)))))) (sSeq (sSet 5 (eIf (tOf (eOp2 oEQ (eN oLen (aCons (eVar 1) (aNil))) (eOp2 oPlus (eVar 3) (eC (.int 2))))) (eOp2 oIX (eVar 1) (eOp1 oNeg (eC (.int 1)))) (eNewK))) (sTryP 6 (eStarK tabP (eVar 2) (eVar 0) (eVar 4) (eVar 5)))))
def M_performed : List D → Sto → Res D := fnM 7 m_performed
theorem sc_performed : FnScope ["runtime", "step", "function", "many", "arguments", "by_name", "e"] ["runtime", "step"] (defScope s_performed) := ⟨rfl, rfl, rfl, by decide +kernel, rfl, by decide +kernel, by decide +kernel⟩
theorem d_performed (F : Fx K w mg) : FnA P w K mg base (He.ga K "performed") ["runtime", "step"] [] 10 M_performed := by
  obtain ⟨fd, F1⟩ := F.def_ 76 (d := dd_performed)
  have F0 : FunD K "performed" "performed" (defArgs s_performed) (defBody s_performed) (defScope s_performed) [] [] (He.ga K "performed") fd := F1
  refine fnA_of F0 sc_performed (FunD.bindsN F0 fun _ _ _ _ _ _ us hl => match us, hl with | [_, _], _ => rfl) .nil (fun _ _ => .nil) fun cdv A outer s H E hr => ?_
  have g : Ge (cxOf (L2.CX P w) P w K mg base ["runtime", "step", "function", "many", "arguments", "by_name", "e"] "performed" (defScope s_performed) (He.ga K "performed") cdv A outer s H E) 9 := ⟨rfl, hr, sc_performed.nd⟩
  have po : PassesOwn (model P w) (A.deeper (envOfC "performed" (defScope s_performed) s.heap.objs.size (He.ga K "performed") cdv)) (envOfC "performed" (defScope s_performed) s.heap.objs.size (He.ga K "performed") cdv) (cxOf (L2.CX P w) P w K mg base ["runtime", "step", "function", "many", "arguments", "by_name", "e"] "performed" (defScope s_performed) (He.ga K "performed") cdv A outer s H E).xe := PassesOwn.leaving
  exact (ss_cons (ss_asg (se_sl r_sl (se_ix (s_ixG F.tab_PERFORMED) (se_gl rfl (g_PERFORMED F)) (se_ix (r_ix g) v se_int)) sp_none (sp_some se_int)) (sg_tup g.hc (sg_cons (tgv g) (sg_cons (tgv g) sg_nil))))
  (ss_cons (setv g (se_sl r_sl v (sp_some se_int) (sp_some (se_bin r_plus v se_int))))
  (ss_cons (setv g (se_ifx (st_cmp (r_eq g) (se_callB s_len rfl (n_len F) bt_len (sa_cons v sa_nil)) (se_bin r_plus v se_int)) (se_ix (r_ix g) v (se_un s_neg se_int)) se_newK))
  (ss_one (ss_perf (i := 6) F g rfl rfl rfl rfl (roomH_of g.hr) (fun pn xe => have g := g.tr pn xe; (se_starkw (tabP_ok F) g.hr v v v v)))))))
def m_do : MS := sSeq (sIf (tNot (tOf (eN (oIsi tabI) (aCons (eVar 1) (aCons (eC (.ty "list")) (aNil)))))) (sRaise "NoStep" "at" (eC .non)) (sNil)) (sSeq (sFor 300 (SL.iEnum (aCons (eVar 1) (aNil))) (.tp ((.nm 2) :: (.nm 3) :: [])) (sIf (tNot (tOf (eCall 1 [] M_is_step_fr (aCons (eVar 3) (aNil))))) (sRaise "NoStep" "at" (eVar 2)) (sNil))) (sRet (eLc 300 (iANY (eVar 1)) (.nm 3) (tYesM) (eCall 2 [] M_performed (aCons (eVar 0) (aCons (eVar 3) (aNil)))) [3])))
def M_do : List D → Sto → Res D := fnM 4 m_do
theorem sc_do : FnScope ["runtime", "steps", "at", "step"] ["runtime", "steps"] (defScope s_do) := ⟨rfl, rfl, rfl, by decide +kernel, rfl, by decide +kernel, by decide +kernel⟩
theorem d_do (F : Fx K w mg) : FnA P w K mg base (He.ga K "do") ["runtime", "steps"] [] 11 M_do := by
  obtain ⟨fd, F1⟩ := F.def_ 77 (d := dd_do)
  have F0 : FunD K "do" "do" (defArgs s_do) (defBody s_do) (defScope s_do) [] [] (He.ga K "do") fd := F1
  refine fnA_of F0 sc_do (FunD.bindsN F0 fun _ _ _ _ _ _ us hl => match us, hl with | [_, _], _ => rfl) .nil (fun _ _ => .nil) fun cdv A outer s H E hr => ?_
  have g : Ge (cxOf (L2.CX P w) P w K mg base ["runtime", "steps", "at", "step"] "do" (defScope s_do) (He.ga K "do") cdv A outer s H E) 10 := ⟨rfl, hr, sc_do.nd⟩
  have po : PassesOwn (model P w) (A.deeper (envOfC "do" (defScope s_do) s.heap.objs.size (He.ga K "do") cdv)) (envOfC "do" (defScope s_do) s.heap.objs.size (He.ga K "do") cdv) (cxOf (L2.CX P w) P w K mg base ["runtime", "steps", "at", "step"] "do" (defScope s_do) (He.ga K "do") cdv A outer s H E).xe := PassesOwn.leaving
  exact (ss_cons (ss_if (st_not (st_val (se_callB (s_isi F.isi) rfl (n_isinstance F) bt_isinstance (sa_cons v (sa_cons (se_ty rfl (n_list F) bt_list) sa_nil))))) (ss_one (ss_raise (x_NoStep F) g.hc g.hr rfl (g_NoStep F) se_non)) ss_nil)
  (ss_cons (ss_for po g.hc (si_enum rfl (n_enumerate F) (sa_cons v sa_nil)) (sg_tup g.hc (sg_cons (tgv g) (sg_cons (tgv g) sg_nil))) (ss_one (ss_if (st_not (st_val (se_call (d_is_step_fr F) g.hr rfl (g_is_step F) (sa_cons v sa_nil)))) (ss_one (ss_raise (x_NoStep F) g.hc g.hr rfl (g_NoStep F) v)) ss_nil)))
  (ss_one (ss_ret (lcG g (own := [("step", 3)]) (i_any v) (by exact blkOk_by (by rfl)) (fun _ _ _ _ _ g => (tgv g)) (fun _ _ _ _ _ g => sts_nil) (fun _ _ _ _ _ g => (se_call (d_performed F) g.hr rfl (g_performed F) (sa_cons v (sa_cons v sa_nil)))))))))
def m__law_untouched : MS := sSeq (sIf (tOr (tOf (eOp2 oNE (eCall 1 [] M_now (aCons (eVar 0) (aNil))) (eC (.int 2)))) (tOr (tOf (eOp2 oNE (eCall 2 [.non] M_classes (aCons (eVar 0) (aNil))) (eLst (aCons (eC (.str "a")) (aCons (eC (.str "any")) (aCons (eC (.str "int")) (aNil))))))) (tOf (eOp2 oNE (eCall 2 [.non] M_methods (aCons (eVar 0) (aNil))) (eLst (aCons (eTup (aCons (eC (.str "f")) (aCons (eTup (aCons (eC (.str "any")) (aNil))) (aNil)))) (aNil))))))) (sRet (eC (.bl false))) (sNil)) (sSeq (sTryU (eCall 2 [] M_result (aCons (eVar 0) (aCons (eC (.int 1)) (aNil))))) (sRet (eC (.bl false))))
def M__law_untouched : List D → Sto → Res D := fnM 1 m__law_untouched
theorem sc__law_untouched : FnScope ["_law_runtime"] ["_law_runtime"] (defScope s__law_untouched) := ⟨rfl, rfl, rfl, by decide +kernel, rfl, by decide +kernel, by decide +kernel⟩
theorem d__law_untouched (F : Fx K w mg) : FnA P w K mg base (He.ga K "_law_untouched") ["_law_runtime"] [] 5 M__law_untouched := by
  obtain ⟨fd, F1⟩ := F.def_ 78 (d := dd__law_untouched)
  have F0 : FunD K "_law_untouched" "_law_untouched" (defArgs s__law_untouched) (defBody s__law_untouched) (defScope s__law_untouched) [] [] (He.ga K "_law_untouched") fd := F1
  refine fnA_of F0 sc__law_untouched (FunD.bindsN F0 fun _ _ _ _ _ _ us hl => match us, hl with | [_], _ => rfl) .nil (fun _ _ => .nil) fun cdv A outer s H E hr => ?_
  have g : Ge (cxOf (L2.CX P w) P w K mg base ["_law_runtime"] "_law_untouched" (defScope s__law_untouched) (He.ga K "_law_untouched") cdv A outer s H E) 4 := ⟨rfl, hr, sc__law_untouched.nd⟩
  have po : PassesOwn (model P w) (A.deeper (envOfC "_law_untouched" (defScope s__law_untouched) s.heap.objs.size (He.ga K "_law_untouched") cdv)) (envOfC "_law_untouched" (defScope s__law_untouched) s.heap.objs.size (He.ga K "_law_untouched") cdv) (cxOf (L2.CX P w) P w K mg base ["_law_runtime"] "_law_untouched" (defScope s__law_untouched) (He.ga K "_law_untouched") cdv A outer s H E).xe := PassesOwn.leaving
  exact (ss_cons (ss_if (st_w (sw_or (st_cmp (r_ne g) (se_call (d_now F) g.hr rfl (g_now F) (sa_cons v sa_nil)) se_int) (sw_or (st_cmp (r_ne g) (se_call (d_classes F) g.hr rfl (g_classes F) (sa_cons v sa_nil)) (se_lst (sa_cons se_str (sa_cons se_str (sa_cons se_str sa_nil))))) (sw_or1 (st_cmp (r_ne g) (se_call (d_methods F) g.hr rfl (g_methods F) (sa_cons v sa_nil)) (se_lst (sa_cons (se_tup (sa_cons se_str (sa_cons (se_tup (sa_cons se_str sa_nil)) sa_nil))) sa_nil))))))) (ss_one (ss_ret se_bl)) ss_nil)
  (ss_cons (ss_unt F g rfl rfl rfl (roomH_of g.hr) (fun pn xe => have g := g.tr pn xe; (se_call (d_result F) g.hr rfl (g_result F) (sa_cons v (sa_cons se_int sa_nil)))))
  (ss_one (ss_ret se_bl))))
def M__law_untouched_fr : List D → Sto → Res D := frM nFr M__law_untouched
theorem d__law_untouched_fr (F : Fx K w mg) : FnA P w K mg base (He.ga K "_law_untouched") ["_law_runtime"] [] 5 M__law_untouched_fr := (d__law_untouched F).fr nFr
end
end SG
set_option Elab.async false
set_option linter.all false
set_option maxRecDepth 100000
set_option maxHeartbeats 0
namespace SG
open PySem PySem.Spec PyProof.Rows L2 SL L2H
/-- _law_said -/
def sd80 : Res D → Res D := fun r => match r with
  | .ok d S => .ok (.tup [.str "told", d]) S
  | .err C fs S => if C = "NoStep" then (match fs.lookup ("at" : Str) with
    | some d => .ok (.tup [.str "step", d]) S
    | none => .bad) else .bad
  | .bad => .bad
theorem sc_said : FnScope ["_law_ask", "e"] ["_law_ask"] (defScope s__law_said) := ⟨rfl, rfl, rfl, by decide +kernel, rfl, by decide +kernel, by decide +kernel⟩
theorem gives80 {X : Cx} (F : Fx X.K X.w X.mg) (q : Str) (cdg : Value) : LamX.GivesTo X ["_law_ask", "e"] "_law_said" (defScope s__law_said) (He.ga X.K "_law_said") cdg (defBody s__law_said) "_law_ask" q (saidTT X sd80) := by
  intro f c' s H Q tl act hc ⟨R, S, r0, rel, htl, hsd⟩
  have two : (2 : Nat) ≤ sizeLine := by rw [sizeLine_eq]; omega
  refine ⟨_, pss_one (ps_try_mix (X := (cxOf C8.CX0 X.prog X.w X.K X.mg X.base ["_law_ask", "e"] "_law_said" (defScope s__law_said) (He.ga X.K "_law_said") cdg X.A X.stack s H C8.E0).nox) (Wout := fun _ _ _ _ => False)
      (tb := fun W D σ H => ∃ Ech : XK, (∀ cls d σ' H', Ech cls d H' → W cls d σ' H') ∧ σ[0]? = some (some (.ref f)) ∧ H c' = some (LamX.CodeO c' q) ∧ tl Ech H (fun v H1 => ([V.str "told", v] : List V).length ≤ sizeLine ∧ ∀ p, H1 p = none → D.rt (.ref p) (upd H1 p (.tup [.str "told", v]))))
      rfl rfl sc_said.nd takes0' (fun W pn xe tk _ => ?_)
      (HdsM.named (i := 1) (ts := fun a cls d => tRet (tTup (tCons (tC (.str "step")) (tCons (tXf a cls d (He.ga X.K "NoStep") "at" (tVar 1)) tNil)))) ⟨rfl, rfl, .inl (g_NoStep F)⟩ rfl rfl (fun a oe cls d pn hz hf => pss_one (ps_ret (pe_tup (pa_cons pe_str (pa_cons (pe_xf (xfB_ok (h_xfStep F)) (of_decide_eq_true (h_noAt F)) hz hf (pe_var rfl (.inl rfl))) pa_nil)))))
        (HdsM.plain ⟨rfl, rfl, .inl (g_WorldError F)⟩ (fun a oe cls d pn hz hf => pss_one (ps_ret (pe_tup (pa_cons pe_str (pa_cons pe_non pa_nil))))) .nil))), ?_⟩
  · refine ⟨fun pins s' σ H' D I h' => ?_⟩
    obtain ⟨Ech, hW, h1, h2, h3⟩ := h'
    exact (pss_one (ps_ret (pe_tup (pa_cons pe_str (pa_cons (act W pn xe Ech _ _ tk hW) pa_nil))))).run pins s' σ H' D I ⟨h1, h2, h3⟩
  · refine ⟨fun cls d H' => ∃ C fs S' R', r0 = .err C fs S' ∧ cls = .ref (He.ga X.K C) ∧ Ext R H R' H' ∧ RelX X R' S' H' ∧ XdR X.K R' H' fs d, fun cls d σ' H' ⟨C, fs, S', R', e0, ec, x1, r1, hx⟩ => ?_, rfl, hc, htl _ _ ?_⟩
    · subst e0 ec
      unfold sd80 at hsd
      dsimp only at hsd
      by_cases c : C = "NoStep"
      · subst c
        rw [if_pos rfl] at hsd
        cases z : fs.lookup ("at" : Str) with
        | none => simp only [z] at hsd; exact False.elim hsd
        | some dv =>
          simp only [z] at hsd
          refine ⟨true, of_decide_eq_true (h_exmStep F), fun _ a ha hl => ?_, fun z => Bool.noConfusion z⟩
          rcases hx with hx | ⟨dd, fs', q1, q2, q3⟩
          · rw [hx] at z; cases z
          · obtain ⟨v, h3, h4⟩ := q3.lookup z
            refine ⟨.ref a, by rw [List.getElem?_set_self hl], rfl, rfl, dd, fs', v, q1, q2, h3, two, fun p hp => ?_⟩
            exact hsd R' _ (x1.trans (Ext.fresh hp) r1.some) (r1.fresh hp) _ (.tup (.of upd_same) (.cons (.str _) (.cons (h4.ext r1 (Ext.fresh hp)) .nil)))
      · rw [if_neg c] at hsd; exact False.elim hsd
    · cases r0 with
      | bad => exact hsd
      | err C fs S' => exact fun R' H' dx x1 r1 hx => ⟨C, fs, S', R', rfl, rfl, x1, r1, hx⟩
      | ok d S' =>
        intro R' H' x1 r1 v hv
        refine ⟨two, fun p hp => ?_⟩
        exact hsd R' _ (x1.trans (Ext.fresh hp) r1.some) (r1.fresh hp) _ (.tup (.of upd_same) (.cons (.str _) (.cons (hv.ext r1 (Ext.fresh hp)) .nil)))
end SG
set_option Elab.async false
set_option linter.all false
set_option maxRecDepth 100000
set_option maxHeartbeats 0
namespace SG
open PySem PySem.Spec PyProof.Rows L2 SL L2H
section
variable {P : Program} {K : PySem.W.Frag} {w : World} {mg : Str → Option Value} {base : Heap}
def lawFor : List Stmt := match defBody s_law with
  | .For _ _ b _ _ :: _ => b
  | _ => []
def m_lawS0 : MS := sRet (eC (.bl false))
def m_lawS1 : MS := sIf (tOr (tNot (tOf (eCall 1 [] M__law_untouched_fr (aCons (eVar 3) (aNil))))) (tOf (eOp2 oNE (eCall 2 [] M_do (aCons (eVar 3) (aCons (eLst (aCons (eTup (aCons (eC (.str "advance")) (aCons (eC (.int 0)) (aCons (eC (.int 3)) (aNil))))) (aCons (eTup (aCons (eC (.str "result")) (aCons (eC (.int 0)) (aCons (eNewK) (aNil))))) (aNil)))) (aNil)))) (eLst (aCons (eC (.bl true)) (aCons (eC (.int 7)) (aNil))))))) (m_lawS0) (sNil)
def m_lawS2 : MS := sRet (eC (.bl false))
def m_lawS3 : MS := sIf (tOf (eOp2 oNE (eCall 2 [] M_do (aCons (eVar 3) (aCons (eLst (aCons (eTup (aCons (eC (.str "advance")) (aCons (eC (.int 0)) (aCons (eNewK) (aNil))))) (aCons (eTup (aCons (eC (.str "call")) (aCons (eC (.str "f")) (aCons (eNewK) (aNil))))) (aCons (eTup (aCons (eC (.str "compile_entry")) (aCons (eC (.str "f")) (aCons (eNewK) (aCons (eNewK) (aNil)))))) (aNil))))) (aNil)))) (eLst (aCons (eTup (aCons (eC (.str "raises")) (aCons (eC (.str "NoSteps")) (aNil)))) (aCons (eTup (aCons (eC (.str "raises")) (aCons (eC (.str "NoValues")) (aNil)))) (aCons (eTup (aCons (eC (.str "raises")) (aCons (eC (.str "NoSignature")) (aNil)))) (aNil))))))) (m_lawS2) (sNil)
def m_lawS4 : MS := sRet (eC (.bl false))
def m_lawS5 : MS := sIf (tOf (eOp2 oNE (eCall 2 [] M_do (aCons (eVar 3) (aCons (eLst (aCons (eTup (aCons (eC (.str "define")) (aCons (eNewK) (aCons (eC (.int 0)) (aCons (eNewK) (aNil)))))) (aCons (eTup (aCons (eC (.str "add_class")) (aCons (eLst (aNil)) (aCons (eNewK) (aNil))))) (aCons (eTup (aCons (eC (.str "result")) (aCons (eNewK) (aNil)))) (aCons (eTup (aCons (eC (.str "apply")) (aCons (eNewK) (aNil)))) (aNil)))))) (aNil)))) (eLst (aCons (eTup (aCons (eC (.str "raises")) (aCons (eC (.str "NoFunction")) (aNil)))) (aCons (eTup (aCons (eC (.str "raises")) (aCons (eC (.str "NoClass")) (aNil)))) (aCons (eTup (aCons (eC (.str "raises")) (aCons (eC (.str "NoTask")) (aNil)))) (aCons (eTup (aCons (eC (.str "raises")) (aCons (eC (.str "NoChange")) (aNil)))) (aNil)))))))) (m_lawS4) (sNil)
def m_lawS6 : MS := sRet (eC (.bl false))
def m_lawS7 : MS := sIf (tOr (tOf (eOp2 oNE (eSaid sd80 (eCall 2 [] M_do (aCons (eVar 3) (aCons (eVar 7) (aNil))))) (eTup (aCons (eC (.str "step")) (aCons (eC .non) (aNil)))))) (tNot (tOf (eCall 1 [] M__law_untouched_fr (aCons (eVar 3) (aNil)))))) (m_lawS6) (sNil)
def m_lawB8 : MS := m_lawS7
def m_lawS9 : MS := sFor 300 (iANY (eLst (aCons (eC .non) (aCons (eC (.int 5)) (aCons (eC (.str "call")) (aCons (eNewK) (aCons (eTup (aCons (eC (.str "call")) (aCons (eC (.str "f")) (aCons (eTup (aCons (eC (.int 1)) (aNil))) (aNil))))) (aCons (eTup (aNil)) (aCons (eOp2 oEQ (eC (.int 1)) (eC (.int 1))) (aCons (eVar 3) (aNil))))))))))) (.nm 7) (gcS m_lawB8)
def m_lawS10 : MS := sRet (eC (.bl false))
def m_lawS11 : MS := sIf (tOf (eOp2 oNE (eSaid sd80 (eCall 2 [] M_do (aCons (eVar 3) (aCons (eLst (aCons (eVar 7) (aNil))) (aNil))))) (eTup (aCons (eC (.str "step")) (aCons (eC (.int 0)) (aNil)))))) (m_lawS10) (sNil)
def m_lawB12 : MS := m_lawS11
def m_lawS13 : MS := sFor 300 (iANY (eVar 4)) (.nm 7) (gcS m_lawB12)
def m_lawS14 : MS := sRet (eC (.bl false))
def m_lawS15 : MS := sIf (tOf (eOp2 oNE (eSaid sd80 (eCall 2 [] M_do (aCons (eVar 3) (aCons (eN oTupOf (aCons (eVar 6) (aNil))) (aNil))))) (eTup (aCons (eC (.str "step")) (aCons (eC .non) (aNil)))))) (m_lawS14) (sNil)
def m_lawS16 : MS := sRet (eC (.bl false))
def m_lawS17 : MS := sIf (tOr (tOf (eOp2 oNE (eSaid sd80 (eCall 2 [] M_do (aCons (eVar 3) (aCons (eVar 10) (aNil))))) (eTup (aCons (eC (.str "step")) (aCons (eVar 8) (aNil)))))) (tNot (tOf (eCall 1 [] M__law_untouched_fr (aCons (eVar 3) (aNil)))))) (m_lawS16) (sNil)
def m_lawS18 : MS := sSet 10 (eOp2 oPlus (eOp2 oPlus (eOp2 oPlus (eSl oSL (eVar 6) (pNone) (pSome (eVar 8))) (eLst (aCons (eVar 7) (aNil)))) (eSl oSL (eVar 6) (pSome (eVar 8)) (pNone))) (eVar 9))
def m_lawS19 : MS := sSet 9 (eOp2 oMul (eLst (aCons (eCall 2 [] M__law_one (aCons (eVar 2) (aCons (eVar 4) (aNil)))) (aNil))) (eCall 2 [] M__law_draw (aCons (eVar 2) (aCons (eC (.int 2)) (aNil)))))
def m_lawS20 : MS := sSet 8 (eCall 2 [] M__law_draw (aCons (eVar 2) (aCons (eOp2 oPlus (eN oLen (aCons (eVar 6) (aNil))) (eC (.int 1))) (aNil))))
def m_lawS21 : MS := sAsg (.tp ((.nm 6) :: (.nm 7) :: [])) (eTup (aCons (eCall 1 [] M__law_steps (aCons (eVar 2) (aNil))) (aCons (eCall 2 [] M__law_one (aCons (eVar 2) (aCons (eVar 4) (aNil)))) (aNil))))
def m_lawB22 : MS := sSeq (m_lawS21) (sSeq (m_lawS20) (sSeq (m_lawS19) (sSeq (m_lawS18) (sSeq (m_lawS17) (m_lawS15)))))
def m_lawS23 : MS := sFor 300 (iRange1 (aCons (eC (.int 12)) (aNil))) (.nm 5) (gcS m_lawB22)
def m_lawS24 : MS := sAsg (.tp ((.nm 3) :: (.nm 4) :: [])) (eTup (aCons (eCall 0 [] M__law_begun aNil) (aCons (eCall 0 [] M__law_no_steps aNil) (aNil))))
def m_lawS25 : MS := sSet 2 (eCall 1 [] M__law_well (aCons (eVar 1) (aNil)))
def m_law : MS := sSeq (m_lawS25) (sSeq (m_lawS24) (sSeq (m_lawS23) (sSeq (m_lawS13) (sSeq (m_lawS9) (sSeq (m_lawS5) (sSeq (m_lawS3) (m_lawS1)))))))
theorem sc_law : FnScope ["_law_script", "_law_cell", "_law_well_here", "_law_runtime", "_law_odds", "_law_turn", "_law_some", "_law_odd", "_law_at", "_law_later", "_law_listed"] ["_law_script"] (defScope s_law) := ⟨rfl, rfl, rfl, by decide +kernel, rfl, by decide +kernel, by decide +kernel⟩
theorem s_lawFor (F : Fx K w mg) (T : TBs K base mg) {fd : FuncData} (FL : FunD K "law" "law" (defArgs s_law) (defBody s_law) (defScope s_law) [] [] (He.ga K "law") fd) {cdv : Value} (hc : fd.code = cdv) {A : Around} {outer : List Env} {s : Shared} {H : Hp} {E : XK} (hr : Room 13 (A.deeper (envOfC "law" (defScope s_law) s.heap.objs.size (He.ga K "law") cdv))) : SSs (cxOf (L2.CX P w) P w K mg base ["_law_script", "_law_cell", "_law_well_here", "_law_runtime", "_law_odds", "_law_turn", "_law_some", "_law_odd", "_law_at", "_law_later", "_law_listed"] "law" (defScope s_law) (He.ga K "law") cdv A outer s H E) lawFor m_law := by
  obtain ⟨fdS, FS⟩ := F__law_said F
  have FS : FunD K "_law_said" "_law_said" (defArgs s__law_said) (defBody s__law_said) (defScope s__law_said) [] [] (He.ga K "_law_said") fdS := FS
  have bS : Binds K fdS ["_law_ask"] [] := FunD.bindsN FS fun _ _ _ _ _ _ us hl => match us, hl with | [_], _ => rfl
  obtain ⟨cL, pL, LA⟩ := lamAt_of (X := (cxOf (L2.CX P w) P w K mg base ["_law_script", "_law_cell", "_law_well_here", "_law_runtime", "_law_odds", "_law_turn", "_law_some", "_law_odd", "_law_at", "_law_later", "_law_listed"] "law" (defScope s_law) (He.ga K "law") cdv A outer s H E)) FL hc rfl T (h_lamL F)
  have g : Ge (cxOf (L2.CX P w) P w K mg base ["_law_script", "_law_cell", "_law_well_here", "_law_runtime", "_law_odds", "_law_turn", "_law_some", "_law_odd", "_law_at", "_law_later", "_law_listed"] "law" (defScope s_law) (He.ga K "law") cdv A outer s H E) 13 := ⟨rfl, hr, sc_law.nd⟩
  have po : PassesOwn (model P w) (A.deeper (envOfC "law" (defScope s_law) s.heap.objs.size (He.ga K "law") cdv)) (envOfC "law" (defScope s_law) s.heap.objs.size (He.ga K "law") cdv) (cxOf (L2.CX P w) P w K mg base ["_law_script", "_law_cell", "_law_well_here", "_law_runtime", "_law_odds", "_law_turn", "_law_some", "_law_odd", "_law_at", "_law_later", "_law_listed"] "law" (defScope s_law) (He.ga K "law") cdv A outer s H E).xe := PassesOwn.leaving
  exact (ss_cons (setv g (se_call (d__law_well F) g.hr rfl (g__law_well F) (sa_cons v sa_nil)))
  (ss_cons (ss_asg (se_tup (sa_cons (se_call0 (d__law_begun F) g.hr rfl (g__law_begun F)) (sa_cons (se_call0 (d__law_no_steps F) g.hr rfl (g__law_no_steps F)) sa_nil))) (sg_tup g.hc (sg_cons (tgv g) (sg_cons (tgv g) sg_nil))))
  (ss_cons (ss_for po g.hc (si_range1 rfl (n_range F) (sa_cons se_int sa_nil)) (tgv g) (sss_gc (ss_cons (ss_asg (se_tup (sa_cons (se_call (d__law_steps F) g.hr rfl (g__law_steps F) (sa_cons v sa_nil)) (sa_cons (se_call (d__law_one F) g.hr rfl (g__law_one F) (sa_cons v (sa_cons v sa_nil))) sa_nil))) (sg_tup g.hc (sg_cons (tgv g) (sg_cons (tgv g) sg_nil))))
  (ss_cons (setv g (se_call (d__law_draw F) g.hr rfl (g__law_draw F) (sa_cons v (sa_cons (se_bin r_plus (se_callB s_len rfl (n_len F) bt_len (sa_cons v sa_nil)) se_int) sa_nil))))
  (ss_cons (setv g (se_bin s_mul (se_lst (sa_cons (se_call (d__law_one F) g.hr rfl (g__law_one F) (sa_cons v (sa_cons v sa_nil))) sa_nil)) (se_call (d__law_draw F) g.hr rfl (g__law_draw F) (sa_cons v (sa_cons se_int sa_nil)))))
  (ss_cons (setv g (se_bin r_plus (se_bin r_plus (se_bin r_plus (se_sl r_sl v sp_none (sp_some v)) (se_lst (sa_cons v sa_nil))) (se_sl r_sl v (sp_some v) sp_none)) v))
  (ss_cons (ss_if (st_w (sw_or (st_cmp (r_ne g) (se_lam (k := 11) FS bS sc_said rfl (.inl rfl) rfl (g__law_said F) (gives80 F _) LA g.hr (LamX.lamS_by (sc := defScope s_law) (by decide +kernel)) rfl (fun _ _ _ _ _ => rfl) (fun A outer s H E f c hr2 => have g : Ge (LamX.lamCx _ A outer s H E _ f c) 11 := ⟨rfl, hr2, g.nd⟩; (se_call (d_do F) g.hr rfl (g_do F) (sa_cons v (sa_cons v sa_nil))))) (se_tup (sa_cons se_str (sa_cons v sa_nil)))) (sw_or1 (st_not (st_val (se_call (d__law_untouched_fr F) g.hr rfl (g__law_untouched F) (sa_cons v sa_nil))))))) (ss_one (ss_ret se_bl)) ss_nil)
  (ss_one (ss_if (st_cmp (r_ne g) (se_lam (k := 11) FS bS sc_said rfl (.inl rfl) rfl (g__law_said F) (gives80 F _) LA g.hr (LamX.lamS_by (sc := defScope s_law) (by decide +kernel)) rfl (fun _ _ _ _ _ => rfl) (fun A outer s H E f c hr2 => have g : Ge (LamX.lamCx _ A outer s H E _ f c) 11 := ⟨rfl, hr2, g.nd⟩; (se_call (d_do F) g.hr rfl (g_do F) (sa_cons v (sa_cons (se_callTy s_tupOf rfl (n_tuple F) bt_tuple (sa_cons v sa_nil)) sa_nil))))) (se_tup (sa_cons se_str (sa_cons se_non sa_nil)))) (ss_one (ss_ret se_bl)) ss_nil)))))))))
  (ss_cons (ss_for po g.hc (i_any v) (tgv g) (sss_gc (ss_one (ss_if (st_cmp (r_ne g) (se_lam (k := 11) FS bS sc_said rfl (.inl rfl) rfl (g__law_said F) (gives80 F _) LA g.hr (LamX.lamS_by (sc := defScope s_law) (by decide +kernel)) rfl (fun _ _ _ _ _ => rfl) (fun A outer s H E f c hr2 => have g : Ge (LamX.lamCx _ A outer s H E _ f c) 11 := ⟨rfl, hr2, g.nd⟩; (se_call (d_do F) g.hr rfl (g_do F) (sa_cons v (sa_cons (se_lst (sa_cons v sa_nil)) sa_nil))))) (se_tup (sa_cons se_str (sa_cons se_int sa_nil)))) (ss_one (ss_ret se_bl)) ss_nil))))
  (ss_cons (ss_for po g.hc (i_any (se_lst (sa_cons se_non (sa_cons se_int (sa_cons se_str (sa_cons se_newK (sa_cons (se_tup (sa_cons se_str (sa_cons se_str (sa_cons (se_tup (sa_cons se_int sa_nil)) sa_nil)))) (sa_cons (se_tup sa_nil) (sa_cons (se_cmp (r_eq g) se_int se_int) (sa_cons v sa_nil)))))))))) (tgv g) (sss_gc (ss_one (ss_if (st_w (sw_or (st_cmp (r_ne g) (se_lam (k := 11) FS bS sc_said rfl (.inl rfl) rfl (g__law_said F) (gives80 F _) LA g.hr (LamX.lamS_by (sc := defScope s_law) (by decide +kernel)) rfl (fun _ _ _ _ _ => rfl) (fun A outer s H E f c hr2 => have g : Ge (LamX.lamCx _ A outer s H E _ f c) 11 := ⟨rfl, hr2, g.nd⟩; (se_call (d_do F) g.hr rfl (g_do F) (sa_cons v (sa_cons v sa_nil))))) (se_tup (sa_cons se_str (sa_cons se_non sa_nil)))) (sw_or1 (st_not (st_val (se_call (d__law_untouched_fr F) g.hr rfl (g__law_untouched F) (sa_cons v sa_nil))))))) (ss_one (ss_ret se_bl)) ss_nil))))
  (ss_cons (ss_if (st_cmp (r_ne g) (se_call (d_do F) g.hr rfl (g_do F) (sa_cons v (sa_cons (se_lst (sa_cons (se_tup (sa_cons se_str (sa_cons se_newK (sa_cons se_int (sa_cons se_newK sa_nil))))) (sa_cons (se_tup (sa_cons se_str (sa_cons (se_lst sa_nil) (sa_cons se_newK sa_nil)))) (sa_cons (se_tup (sa_cons se_str (sa_cons se_newK sa_nil))) (sa_cons (se_tup (sa_cons se_str (sa_cons se_newK sa_nil))) sa_nil))))) sa_nil))) (se_lst (sa_cons (se_tup (sa_cons se_str (sa_cons se_str sa_nil))) (sa_cons (se_tup (sa_cons se_str (sa_cons se_str sa_nil))) (sa_cons (se_tup (sa_cons se_str (sa_cons se_str sa_nil))) (sa_cons (se_tup (sa_cons se_str (sa_cons se_str sa_nil))) sa_nil)))))) (ss_one (ss_ret se_bl)) ss_nil)
  (ss_cons (ss_if (st_cmp (r_ne g) (se_call (d_do F) g.hr rfl (g_do F) (sa_cons v (sa_cons (se_lst (sa_cons (se_tup (sa_cons se_str (sa_cons se_int (sa_cons se_newK sa_nil)))) (sa_cons (se_tup (sa_cons se_str (sa_cons se_str (sa_cons se_newK sa_nil)))) (sa_cons (se_tup (sa_cons se_str (sa_cons se_str (sa_cons se_newK (sa_cons se_newK sa_nil))))) sa_nil)))) sa_nil))) (se_lst (sa_cons (se_tup (sa_cons se_str (sa_cons se_str sa_nil))) (sa_cons (se_tup (sa_cons se_str (sa_cons se_str sa_nil))) (sa_cons (se_tup (sa_cons se_str (sa_cons se_str sa_nil))) sa_nil))))) (ss_one (ss_ret se_bl)) ss_nil)
  (ss_one (ss_if (st_w (sw_or (st_not (st_val (se_call (d__law_untouched_fr F) g.hr rfl (g__law_untouched F) (sa_cons v sa_nil)))) (sw_or1 (st_cmp (r_ne g) (se_call (d_do F) g.hr rfl (g_do F) (sa_cons v (sa_cons (se_lst (sa_cons (se_tup (sa_cons se_str (sa_cons se_int (sa_cons se_int sa_nil)))) (sa_cons (se_tup (sa_cons se_str (sa_cons se_int (sa_cons se_newK sa_nil)))) sa_nil))) sa_nil))) (se_lst (sa_cons se_bl (sa_cons se_int sa_nil))))))) (ss_one (ss_ret se_bl)) ss_nil)))))))))
end
end SG
set_option Elab.async false
set_option linter.all false
set_option maxRecDepth 100000
set_option maxHeartbeats 0
namespace SG
open PySem PySem.Spec PyProof.Rows L2 SL L2H
theorem draw_ok {a b c m : Int} (T : Sto) (ha : 0 ≤ a) (hb : 0 ≤ b ∧ b < 2147483647) (hc : 0 ≤ c ∧ c < 1000) (hm : 0 < m ∧ m < 1000) :
    ∃ d a' c', M__law_draw [.ref 0, .int m] (.lst [.int a, .int b, .int c] :: T) = .ok (.int d) (.lst [.int a', .int b, .int c'] :: T) ∧ 0 ≤ d ∧ d < m ∧ 0 ≤ a' ∧ 0 ≤ c' ∧ c' ≤ c + 1 := by
  by_cases h : 0 < a
  · refine ⟨a % m, a / m, c, ?_, Int.emod_nonneg _ (by omega), Int.emod_lt_of_pos _ (by omega), Int.ediv_nonneg ha (by omega), hc.1, by omega⟩
    have h1 : m < 1073741824 := by omega
    simp [M__law_draw, fnM, startD, m__law_draw, sSeq, sIf, tOf, eOp2, eVar, eC, oGt, oI2, oIX, altO2, oIxT, oIxL, ofO, Res.bind, sSet, oMod, eN, oInt, aCons, aNil, altS, sPutK, sPutN, sPutL, sRet, oFdv, hm.1, h, h1, atI, ixN, keyD, okKey]
  · have z1 : (b + 15013 * (c + 1) + 7).natAbs < 18446744073709551616 := by omega
    have n1 := Int.emod_nonneg ((b + 15013 * (c + 1) + 7) ^ 3) (show (2147483587 : Int) ≠ 0 by decide)
    have n2 := Int.emod_lt_of_pos ((b + 15013 * (c + 1) + 7) ^ 3) (show (0 : Int) < 2147483587 by decide)
    generalize e1 : (b + 15013 * (c + 1) + 7) ^ 3 % 2147483587 = x at n1 n2
    have n3 := Int.emod_nonneg ((x + 4057 * (c + 1)) * (x / 1013 + 52361)) (show (2147483549 : Int) ≠ 0 by decide)
    have n4 := Int.emod_lt_of_pos ((x + 4057 * (c + 1)) * (x / 1013 + 52361)) (show (0 : Int) < 2147483549 by decide)
    generalize e2 : (x + 4057 * (c + 1)) * (x / 1013 + 52361) % 2147483549 = y at n3 n4
    refine ⟨y * (y / 2003 + 61403) % 2147483489 / 11 % m, a, c + 1, ?_, Int.emod_nonneg _ (by omega), Int.emod_lt_of_pos _ (by omega), ha, by omega, by omega⟩
    have z2 : -18446744073709551616 < x + 4057 * (c + 1) := by omega
    have z3 : x + 4057 * (c + 1) < 18446744073709551616 := by omega
    have z4 : -18446744073709551616 < y := by omega
    have z5 : y < 18446744073709551616 := by omega
    simp [M__law_draw, fnM, startD, m__law_draw, sSeq, sIf, tOf, eOp2, eVar, eC, oGt, oI2, oIX, altO2, oIxT, oIxL, ofO, Res.bind, sSet, oMod, eN, oInt, aCons, aNil, altS, sPutK, sPutN, sPutL, sRet, sNil, oFdv, oPow, oMul, oMulI, oPlus, oAdd, hm.1, h, atI, ixN, keyD, okKey, z1, e1, z2, z3, e2, z4, z5]
end SG
set_option Elab.async false
set_option linter.all false
set_option maxRecDepth 100000
set_option maxHeartbeats 0
namespace SG
open PySem PySem.Spec PyProof.Rows L2 SL L2H
def odds : List D := [.non, .int 7, .str "call", .ref 56, .ref 57, .tup [], .ref 58, .ref 59, .tup [.int 7], .tup [.non, .int 1], .tup [.ref 60, .str "f", .tup [.int 1]], .tup [.ref 61, .int 1], .tup [.tup [.str "call", .str "f", .tup [.int 1]]], .tup [.str ""], .tup [.str "Call", .str "f", .tup [.int 1]], .tup [.str "calls", .str "f", .tup [.int 1]], .tup [.str "do", .ref 63], .tup [.str "make", .str "a", .tup []], .tup [.str "now"], .tup [.str "classes"], .tup [.str "would_go", .ref 66], .tup [.str "valid"], .tup [.str "is_valid", .int 0], .tup [.str "tells", .tup [], .tup []], .tup [.str "inferred", .str "f", .tup []], .tup [.str "add_class"], .tup [.str "add_class", .str "b"], .tup [.str "add_class", .str "b", .str "any", .tup []], .tup [.str "add_class", .str "b", .str "any", .ref 71, .ref 72], .tup [.str "add_class", .str "b", .str "any", .ref 75], .tup [.str "add_class", .str "b", .str "any", .ref 76], .tup [.str "define", .str "f", .tup [.str "a"]], .tup [.str "define", .str "f", .tup [.str "a"], .tup [.str "int", .int 1], .int 0], .tup [.str "delete", .str "f"], .tup [.str "define", .str "f", .tup [.str "a"], .tup [.str "int", .int 1], .ref 81], .tup [.str "delete", .str "f", .tup [.str "a"], .ref 82], .tup [.str "call"], .tup [.str "call", .str "f"], .tup [.str "call", .str "f", .tup [.int 1], .int 0], .tup [.str "call", .str "f", .ref 85, .tup [.int 1]], .tup [.str "call", .str "f", .tup [.int 1], .ref 86, .ref 87], .tup [.str "call", .str "f", .tup [.int 1], .ref 90], .tup [.str "call", .str "f", .tup [.int 1], .ref 91], .tup [.str "call", .str "f", .tup [.int 1], .ref 92], .tup [.str "call", .str "f", .tup [.int 1], .ref 93], .tup [.str "begin", .str "f", .tup [.int 1], .ref 96], .tup [.str "begin", .str "f", .tup [.int 1], .int 5], .tup [.str "advance", .int 0], .tup [.str "advance", .int 0, .int 1, .int 1], .tup [.str "advance", .int 0, .int 1, .ref 99], .tup [.str "result"], .tup [.str "result", .int 0, .int 0], .tup [.str "result", .int 0, .ref 100], .tup [.str "compile_entry", .str "f", .tup [.str "a"], .ref 103], .tup [.str "compile_entry", .str "f", .tup [.str "a"], .non], .tup [.str "run", .str "f"], .tup [.str "run", .str "f", .tup [.int 1], .ref 106], .tup [.str "apply"], .tup [.str "apply", .ref 107, .ref 108], .tup [.str "apply", .ref 109, .ref 110]]
def steps : List D := [.tup [.str "call", .str "f", .tup [.int 1]], .tup [.str "call", .str "f", .tup [.int 1], .ref 114], .tup [.str "call", .non, .ref 115, .ref 116], .tup [.str "define", .str "f", .tup [.str "any"], .tup [.str "int", .int 8]], .tup [.str "define", .ref 118, .ref 119, .ref 120], .tup [.str "define", .ref 121, .ref 122, .ref 123, .ref 124], .tup [.str "delete", .str "f", .ref 127], .tup [.str "begin", .str "f", .tup [.int 2], .ref 128], .tup [.str "advance", .int 0, .ref 129], .tup [.str "advance", .ref 130, .int 1, .ref 131], .tup [.str "result", .ref 134], .tup [.str "result", .int 0, .ref 135], .tup [.str "add_class", .str "c", .str "any", .ref 136], .tup [.str "add_class", .ref 137, .ref 138], .tup [.str "compile_entry", .str "f", .tup [.str "a"], .ref 141], .tup [.str "run", .str "f", .tup [.int 1]], .tup [.str "apply", .ref 142], .tup [.str "apply", .ref 143]]
def B0 : Sto := [.ins "Runtime" [("kinds", .ref 2), ("tables", .ref 6), ("entries", .ref 7), ("tasks", .ref 8), ("solutions", .ref 9), ("shapes", .ref 10), ("made", .ref 11)],
  .dK [(.inr "any", .ref 3), (.inr "int", .ref 4), (.inr "a", .ref 15)],
  .ins "Kind" [("parent", .non), ("fields", .tup []), ("since", .int 0)],
  .ins "Kind" [("parent", .str "any"), ("fields", .tup []), ("since", .int 0)],
  .dK [],
  .lst [.ref 5, .ref 5, .ref 33],
  .lst [],
  .lst [.ref 37],
  .dK [],
  .dK [],
  .dK [(.inr "direct", .int 0), (.inr "split", .int 0), (.inr "looked", .int 0), (.inr "newest", .int 0)],
  .lst [.bl true],
  .lst [.bl true, .bl true, .bl true],
  .lst [],
  .ins "Kind" [("parent", .str "any"), ("fields", .tup []), ("since", .int 1)],
  .lst [.bl true],
  .lst [.bl true],
  .lst [.bl true, .bl true, .bl true],
  .ins "Place" [("piece", .tup [.str "add", .tup [.str "arg", .int 0], .tup [.str "int", .int 3]]), ("path", .tup []), ("count", .int 1), ("names", .tup [])],
  .lst [],
  .lst [],
  .lst [.ref 23, .ref 24],
  .ins "Place" [("piece", .tup [.str "arg", .int 0]), ("path", .tup [.int 1]), ("count", .int 1), ("names", .tup [])],
  .ins "Place" [("piece", .tup [.str "int", .int 3]), ("path", .tup [.int 2]), ("count", .int 1), ("names", .tup [])],
  .lst [.ref 24, .ref 23],
  .lst [],
  .lst [],
  .lst [],
  .lst [],
  .lst [],
  .lst [],
  .lst [],
  .dN [(.tup [.str "f", .tup [.str "any"]], .tup [.str "add", .tup [.str "arg", .int 0], .tup [.str "int", .int 3]])],
  .lst [.bl true],
  .lst [.bl true],
  .ins "Follower" [],
  .ins "Machine" [("runtime", .ref 1), ("most", .int 1000), ("follower", .ref 36), ("spent", .int 0), ("pending", .tup [.tup [.str "add", .tup [.str "arg", .int 0], .tup [.str "int", .int 3]], .tup [], .ref 55]), ("frames", .ref 38), ("value", .non), ("error", .non), ("has_ended", .bl false)],
  .lst [],
  .lst [.str "int"],
  .lst [.str "int", .str "any"],
  .lst [.str "int", .str "any"],
  .lst [.str "int"],
  .lst [.str "int", .str "any"],
  .lst [.str "int", .str "any"],
  .lst [.tup [.str "any"]],
  .lst [.tup [.str "any"]],
  .lst [.tup [.str "any"]],
  .lst [.bl true],
  .lst [.str "int", .str "any"],
  .lst [],
  .lst [.bl true],
  .lst [.bl true],
  .lst [.str "any"],
  .dK [],
  .ins "Scope" [("given", .tup [.int 4]), ("names", .ref 54), ("world", .int 2), ("entry", .non)],
  .lst [],
  .dK [],
  .lst [.tup [.str "call", .str "f", .tup [.int 1]]],
  .lst [.str "call", .str "f", .tup [.int 1]],
  .lst [.str "call"],
  .dK [],
  .lst [.non, .int 7, .str "call", .ref 56, .ref 57, .tup [], .ref 58, .ref 59, .tup [.int 7], .tup [.non, .int 1], .tup [.ref 60, .str "f", .tup [.int 1]], .tup [.ref 61, .int 1], .tup [.tup [.str "call", .str "f", .tup [.int 1]]]],
  .lst [],
  .lst [.tup [.str ""], .tup [.str "Call", .str "f", .tup [.int 1]], .tup [.str "calls", .str "f", .tup [.int 1]], .tup [.str "do", .ref 63], .tup [.str "make", .str "a", .tup []], .tup [.str "now"]],
  .lst [.non, .int 7, .str "call", .ref 56, .ref 57, .tup [], .ref 58, .ref 59, .tup [.int 7], .tup [.non, .int 1], .tup [.ref 60, .str "f", .tup [.int 1]], .tup [.ref 61, .int 1], .tup [.tup [.str "call", .str "f", .tup [.int 1]]], .tup [.str ""], .tup [.str "Call", .str "f", .tup [.int 1]], .tup [.str "calls", .str "f", .tup [.int 1]], .tup [.str "do", .ref 63], .tup [.str "make", .str "a", .tup []], .tup [.str "now"]],
  .lst [],
  .lst [.tup [.str "classes"], .tup [.str "would_go", .ref 66], .tup [.str "valid"], .tup [.str "is_valid", .int 0], .tup [.str "tells", .tup [], .tup []]],
  .lst [.non, .int 7, .str "call", .ref 56, .ref 57, .tup [], .ref 58, .ref 59, .tup [.int 7], .tup [.non, .int 1], .tup [.ref 60, .str "f", .tup [.int 1]], .tup [.ref 61, .int 1], .tup [.tup [.str "call", .str "f", .tup [.int 1]]], .tup [.str ""], .tup [.str "Call", .str "f", .tup [.int 1]], .tup [.str "calls", .str "f", .tup [.int 1]], .tup [.str "do", .ref 63], .tup [.str "make", .str "a", .tup []], .tup [.str "now"], .tup [.str "classes"], .tup [.str "would_go", .ref 66], .tup [.str "valid"], .tup [.str "is_valid", .int 0], .tup [.str "tells", .tup [], .tup []]],
  .lst [.tup [.str "inferred", .str "f", .tup []], .tup [.str "add_class"], .tup [.str "add_class", .str "b"], .tup [.str "add_class", .str "b", .str "any", .tup []]],
  .lst [.non, .int 7, .str "call", .ref 56, .ref 57, .tup [], .ref 58, .ref 59, .tup [.int 7], .tup [.non, .int 1], .tup [.ref 60, .str "f", .tup [.int 1]], .tup [.ref 61, .int 1], .tup [.tup [.str "call", .str "f", .tup [.int 1]]], .tup [.str ""], .tup [.str "Call", .str "f", .tup [.int 1]], .tup [.str "calls", .str "f", .tup [.int 1]], .tup [.str "do", .ref 63], .tup [.str "make", .str "a", .tup []], .tup [.str "now"], .tup [.str "classes"], .tup [.str "would_go", .ref 66], .tup [.str "valid"], .tup [.str "is_valid", .int 0], .tup [.str "tells", .tup [], .tup []], .tup [.str "inferred", .str "f", .tup []], .tup [.str "add_class"], .tup [.str "add_class", .str "b"], .tup [.str "add_class", .str "b", .str "any", .tup []]],
  .dK [],
  .dK [],
  .lst [.tup [.str "add_class", .str "b", .str "any", .ref 71, .ref 72]],
  .lst [.non, .int 7, .str "call", .ref 56, .ref 57, .tup [], .ref 58, .ref 59, .tup [.int 7], .tup [.non, .int 1], .tup [.ref 60, .str "f", .tup [.int 1]], .tup [.ref 61, .int 1], .tup [.tup [.str "call", .str "f", .tup [.int 1]]], .tup [.str ""], .tup [.str "Call", .str "f", .tup [.int 1]], .tup [.str "calls", .str "f", .tup [.int 1]], .tup [.str "do", .ref 63], .tup [.str "make", .str "a", .tup []], .tup [.str "now"], .tup [.str "classes"], .tup [.str "would_go", .ref 66], .tup [.str "valid"], .tup [.str "is_valid", .int 0], .tup [.str "tells", .tup [], .tup []], .tup [.str "inferred", .str "f", .tup []], .tup [.str "add_class"], .tup [.str "add_class", .str "b"], .tup [.str "add_class", .str "b", .str "any", .tup []], .tup [.str "add_class", .str "b", .str "any", .ref 71, .ref 72]],
  .dK [(.inr "field", .tup [])],
  .dK [(.inr "fields", .tup []), (.inr "world", .int 0)],
  .lst [.tup [.str "add_class", .str "b", .str "any", .ref 75], .tup [.str "add_class", .str "b", .str "any", .ref 76]],
  .lst [.non, .int 7, .str "call", .ref 56, .ref 57, .tup [], .ref 58, .ref 59, .tup [.int 7], .tup [.non, .int 1], .tup [.ref 60, .str "f", .tup [.int 1]], .tup [.ref 61, .int 1], .tup [.tup [.str "call", .str "f", .tup [.int 1]]], .tup [.str ""], .tup [.str "Call", .str "f", .tup [.int 1]], .tup [.str "calls", .str "f", .tup [.int 1]], .tup [.str "do", .ref 63], .tup [.str "make", .str "a", .tup []], .tup [.str "now"], .tup [.str "classes"], .tup [.str "would_go", .ref 66], .tup [.str "valid"], .tup [.str "is_valid", .int 0], .tup [.str "tells", .tup [], .tup []], .tup [.str "inferred", .str "f", .tup []], .tup [.str "add_class"], .tup [.str "add_class", .str "b"], .tup [.str "add_class", .str "b", .str "any", .tup []], .tup [.str "add_class", .str "b", .str "any", .ref 71, .ref 72], .tup [.str "add_class", .str "b", .str "any", .ref 75], .tup [.str "add_class", .str "b", .str "any", .ref 76]],
  .lst [.tup [.str "define", .str "f", .tup [.str "a"]], .tup [.str "define", .str "f", .tup [.str "a"], .tup [.str "int", .int 1], .int 0], .tup [.str "delete", .str "f"]],
  .lst [.non, .int 7, .str "call", .ref 56, .ref 57, .tup [], .ref 58, .ref 59, .tup [.int 7], .tup [.non, .int 1], .tup [.ref 60, .str "f", .tup [.int 1]], .tup [.ref 61, .int 1], .tup [.tup [.str "call", .str "f", .tup [.int 1]]], .tup [.str ""], .tup [.str "Call", .str "f", .tup [.int 1]], .tup [.str "calls", .str "f", .tup [.int 1]], .tup [.str "do", .ref 63], .tup [.str "make", .str "a", .tup []], .tup [.str "now"], .tup [.str "classes"], .tup [.str "would_go", .ref 66], .tup [.str "valid"], .tup [.str "is_valid", .int 0], .tup [.str "tells", .tup [], .tup []], .tup [.str "inferred", .str "f", .tup []], .tup [.str "add_class"], .tup [.str "add_class", .str "b"], .tup [.str "add_class", .str "b", .str "any", .tup []], .tup [.str "add_class", .str "b", .str "any", .ref 71, .ref 72], .tup [.str "add_class", .str "b", .str "any", .ref 75], .tup [.str "add_class", .str "b", .str "any", .ref 76], .tup [.str "define", .str "f", .tup [.str "a"]], .tup [.str "define", .str "f", .tup [.str "a"], .tup [.str "int", .int 1], .int 0], .tup [.str "delete", .str "f"]],
  .dK [(.inr "world", .non)],
  .dK [(.inr "x", .int 1)],
  .lst [.tup [.str "define", .str "f", .tup [.str "a"], .tup [.str "int", .int 1], .ref 81], .tup [.str "delete", .str "f", .tup [.str "a"], .ref 82]],
  .lst [.non, .int 7, .str "call", .ref 56, .ref 57, .tup [], .ref 58, .ref 59, .tup [.int 7], .tup [.non, .int 1], .tup [.ref 60, .str "f", .tup [.int 1]], .tup [.ref 61, .int 1], .tup [.tup [.str "call", .str "f", .tup [.int 1]]], .tup [.str ""], .tup [.str "Call", .str "f", .tup [.int 1]], .tup [.str "calls", .str "f", .tup [.int 1]], .tup [.str "do", .ref 63], .tup [.str "make", .str "a", .tup []], .tup [.str "now"], .tup [.str "classes"], .tup [.str "would_go", .ref 66], .tup [.str "valid"], .tup [.str "is_valid", .int 0], .tup [.str "tells", .tup [], .tup []], .tup [.str "inferred", .str "f", .tup []], .tup [.str "add_class"], .tup [.str "add_class", .str "b"], .tup [.str "add_class", .str "b", .str "any", .tup []], .tup [.str "add_class", .str "b", .str "any", .ref 71, .ref 72], .tup [.str "add_class", .str "b", .str "any", .ref 75], .tup [.str "add_class", .str "b", .str "any", .ref 76], .tup [.str "define", .str "f", .tup [.str "a"]], .tup [.str "define", .str "f", .tup [.str "a"], .tup [.str "int", .int 1], .int 0], .tup [.str "delete", .str "f"], .tup [.str "define", .str "f", .tup [.str "a"], .tup [.str "int", .int 1], .ref 81], .tup [.str "delete", .str "f", .tup [.str "a"], .ref 82]],
  .dK [],
  .dK [],
  .dK [],
  .lst [.tup [.str "call"], .tup [.str "call", .str "f"], .tup [.str "call", .str "f", .tup [.int 1], .int 0], .tup [.str "call", .str "f", .ref 85, .tup [.int 1]], .tup [.str "call", .str "f", .tup [.int 1], .ref 86, .ref 87]],
  .lst [.non, .int 7, .str "call", .ref 56, .ref 57, .tup [], .ref 58, .ref 59, .tup [.int 7], .tup [.non, .int 1], .tup [.ref 60, .str "f", .tup [.int 1]], .tup [.ref 61, .int 1], .tup [.tup [.str "call", .str "f", .tup [.int 1]]], .tup [.str ""], .tup [.str "Call", .str "f", .tup [.int 1]], .tup [.str "calls", .str "f", .tup [.int 1]], .tup [.str "do", .ref 63], .tup [.str "make", .str "a", .tup []], .tup [.str "now"], .tup [.str "classes"], .tup [.str "would_go", .ref 66], .tup [.str "valid"], .tup [.str "is_valid", .int 0], .tup [.str "tells", .tup [], .tup []], .tup [.str "inferred", .str "f", .tup []], .tup [.str "add_class"], .tup [.str "add_class", .str "b"], .tup [.str "add_class", .str "b", .str "any", .tup []], .tup [.str "add_class", .str "b", .str "any", .ref 71, .ref 72], .tup [.str "add_class", .str "b", .str "any", .ref 75], .tup [.str "add_class", .str "b", .str "any", .ref 76], .tup [.str "define", .str "f", .tup [.str "a"]], .tup [.str "define", .str "f", .tup [.str "a"], .tup [.str "int", .int 1], .int 0], .tup [.str "delete", .str "f"], .tup [.str "define", .str "f", .tup [.str "a"], .tup [.str "int", .int 1], .ref 81], .tup [.str "delete", .str "f", .tup [.str "a"], .ref 82], .tup [.str "call"], .tup [.str "call", .str "f"], .tup [.str "call", .str "f", .tup [.int 1], .int 0], .tup [.str "call", .str "f", .ref 85, .tup [.int 1]], .tup [.str "call", .str "f", .tup [.int 1], .ref 86, .ref 87]],
  .dK [(.inr "step", .int 5)],
  .dK [(.inl 0, .int 1)],
  .raw [.non],
  .dN [(.tup [.str "world"], .int 0)],
  .lst [.tup [.str "call", .str "f", .tup [.int 1], .ref 90], .tup [.str "call", .str "f", .tup [.int 1], .ref 91], .tup [.str "call", .str "f", .tup [.int 1], .ref 92], .tup [.str "call", .str "f", .tup [.int 1], .ref 93]],
  .lst [.non, .int 7, .str "call", .ref 56, .ref 57, .tup [], .ref 58, .ref 59, .tup [.int 7], .tup [.non, .int 1], .tup [.ref 60, .str "f", .tup [.int 1]], .tup [.ref 61, .int 1], .tup [.tup [.str "call", .str "f", .tup [.int 1]]], .tup [.str ""], .tup [.str "Call", .str "f", .tup [.int 1]], .tup [.str "calls", .str "f", .tup [.int 1]], .tup [.str "do", .ref 63], .tup [.str "make", .str "a", .tup []], .tup [.str "now"], .tup [.str "classes"], .tup [.str "would_go", .ref 66], .tup [.str "valid"], .tup [.str "is_valid", .int 0], .tup [.str "tells", .tup [], .tup []], .tup [.str "inferred", .str "f", .tup []], .tup [.str "add_class"], .tup [.str "add_class", .str "b"], .tup [.str "add_class", .str "b", .str "any", .tup []], .tup [.str "add_class", .str "b", .str "any", .ref 71, .ref 72], .tup [.str "add_class", .str "b", .str "any", .ref 75], .tup [.str "add_class", .str "b", .str "any", .ref 76], .tup [.str "define", .str "f", .tup [.str "a"]], .tup [.str "define", .str "f", .tup [.str "a"], .tup [.str "int", .int 1], .int 0], .tup [.str "delete", .str "f"], .tup [.str "define", .str "f", .tup [.str "a"], .tup [.str "int", .int 1], .ref 81], .tup [.str "delete", .str "f", .tup [.str "a"], .ref 82], .tup [.str "call"], .tup [.str "call", .str "f"], .tup [.str "call", .str "f", .tup [.int 1], .int 0], .tup [.str "call", .str "f", .ref 85, .tup [.int 1]], .tup [.str "call", .str "f", .tup [.int 1], .ref 86, .ref 87], .tup [.str "call", .str "f", .tup [.int 1], .ref 90], .tup [.str "call", .str "f", .tup [.int 1], .ref 91], .tup [.str "call", .str "f", .tup [.int 1], .ref 92], .tup [.str "call", .str "f", .tup [.int 1], .ref 93]],
  .dK [(.inr "world", .non)],
  .lst [.tup [.str "begin", .str "f", .tup [.int 1], .ref 96], .tup [.str "begin", .str "f", .tup [.int 1], .int 5], .tup [.str "advance", .int 0]],
  .lst [.non, .int 7, .str "call", .ref 56, .ref 57, .tup [], .ref 58, .ref 59, .tup [.int 7], .tup [.non, .int 1], .tup [.ref 60, .str "f", .tup [.int 1]], .tup [.ref 61, .int 1], .tup [.tup [.str "call", .str "f", .tup [.int 1]]], .tup [.str ""], .tup [.str "Call", .str "f", .tup [.int 1]], .tup [.str "calls", .str "f", .tup [.int 1]], .tup [.str "do", .ref 63], .tup [.str "make", .str "a", .tup []], .tup [.str "now"], .tup [.str "classes"], .tup [.str "would_go", .ref 66], .tup [.str "valid"], .tup [.str "is_valid", .int 0], .tup [.str "tells", .tup [], .tup []], .tup [.str "inferred", .str "f", .tup []], .tup [.str "add_class"], .tup [.str "add_class", .str "b"], .tup [.str "add_class", .str "b", .str "any", .tup []], .tup [.str "add_class", .str "b", .str "any", .ref 71, .ref 72], .tup [.str "add_class", .str "b", .str "any", .ref 75], .tup [.str "add_class", .str "b", .str "any", .ref 76], .tup [.str "define", .str "f", .tup [.str "a"]], .tup [.str "define", .str "f", .tup [.str "a"], .tup [.str "int", .int 1], .int 0], .tup [.str "delete", .str "f"], .tup [.str "define", .str "f", .tup [.str "a"], .tup [.str "int", .int 1], .ref 81], .tup [.str "delete", .str "f", .tup [.str "a"], .ref 82], .tup [.str "call"], .tup [.str "call", .str "f"], .tup [.str "call", .str "f", .tup [.int 1], .int 0], .tup [.str "call", .str "f", .ref 85, .tup [.int 1]], .tup [.str "call", .str "f", .tup [.int 1], .ref 86, .ref 87], .tup [.str "call", .str "f", .tup [.int 1], .ref 90], .tup [.str "call", .str "f", .tup [.int 1], .ref 91], .tup [.str "call", .str "f", .tup [.int 1], .ref 92], .tup [.str "call", .str "f", .tup [.int 1], .ref 93], .tup [.str "begin", .str "f", .tup [.int 1], .ref 96], .tup [.str "begin", .str "f", .tup [.int 1], .int 5], .tup [.str "advance", .int 0], .tup [.str "advance", .int 0, .int 1, .int 1]],
  .dK [(.inr "count", .int 1)],
  .dK [(.inr "task", .int 0)],
  .lst [.tup [.str "advance", .int 0, .int 1, .ref 99], .tup [.str "result"], .tup [.str "result", .int 0, .int 0], .tup [.str "result", .int 0, .ref 100]],
  .lst [.non, .int 7, .str "call", .ref 56, .ref 57, .tup [], .ref 58, .ref 59, .tup [.int 7], .tup [.non, .int 1], .tup [.ref 60, .str "f", .tup [.int 1]], .tup [.ref 61, .int 1], .tup [.tup [.str "call", .str "f", .tup [.int 1]]], .tup [.str ""], .tup [.str "Call", .str "f", .tup [.int 1]], .tup [.str "calls", .str "f", .tup [.int 1]], .tup [.str "do", .ref 63], .tup [.str "make", .str "a", .tup []], .tup [.str "now"], .tup [.str "classes"], .tup [.str "would_go", .ref 66], .tup [.str "valid"], .tup [.str "is_valid", .int 0], .tup [.str "tells", .tup [], .tup []], .tup [.str "inferred", .str "f", .tup []], .tup [.str "add_class"], .tup [.str "add_class", .str "b"], .tup [.str "add_class", .str "b", .str "any", .tup []], .tup [.str "add_class", .str "b", .str "any", .ref 71, .ref 72], .tup [.str "add_class", .str "b", .str "any", .ref 75], .tup [.str "add_class", .str "b", .str "any", .ref 76], .tup [.str "define", .str "f", .tup [.str "a"]], .tup [.str "define", .str "f", .tup [.str "a"], .tup [.str "int", .int 1], .int 0], .tup [.str "delete", .str "f"], .tup [.str "define", .str "f", .tup [.str "a"], .tup [.str "int", .int 1], .ref 81], .tup [.str "delete", .str "f", .tup [.str "a"], .ref 82], .tup [.str "call"], .tup [.str "call", .str "f"], .tup [.str "call", .str "f", .tup [.int 1], .int 0], .tup [.str "call", .str "f", .ref 85, .tup [.int 1]], .tup [.str "call", .str "f", .tup [.int 1], .ref 86, .ref 87], .tup [.str "call", .str "f", .tup [.int 1], .ref 90], .tup [.str "call", .str "f", .tup [.int 1], .ref 91], .tup [.str "call", .str "f", .tup [.int 1], .ref 92], .tup [.str "call", .str "f", .tup [.int 1], .ref 93], .tup [.str "begin", .str "f", .tup [.int 1], .ref 96], .tup [.str "begin", .str "f", .tup [.int 1], .int 5], .tup [.str "advance", .int 0], .tup [.str "advance", .int 0, .int 1, .int 1], .tup [.str "advance", .int 0, .int 1, .ref 99], .tup [.str "result"], .tup [.str "result", .int 0, .int 0], .tup [.str "result", .int 0, .ref 100]],
  .dK [(.inr "steps", .int 9)],
  .lst [.tup [.str "compile_entry", .str "f", .tup [.str "a"], .ref 103], .tup [.str "compile_entry", .str "f", .tup [.str "a"], .non], .tup [.str "run", .str "f"]],
  .lst [.non, .int 7, .str "call", .ref 56, .ref 57, .tup [], .ref 58, .ref 59, .tup [.int 7], .tup [.non, .int 1], .tup [.ref 60, .str "f", .tup [.int 1]], .tup [.ref 61, .int 1], .tup [.tup [.str "call", .str "f", .tup [.int 1]]], .tup [.str ""], .tup [.str "Call", .str "f", .tup [.int 1]], .tup [.str "calls", .str "f", .tup [.int 1]], .tup [.str "do", .ref 63], .tup [.str "make", .str "a", .tup []], .tup [.str "now"], .tup [.str "classes"], .tup [.str "would_go", .ref 66], .tup [.str "valid"], .tup [.str "is_valid", .int 0], .tup [.str "tells", .tup [], .tup []], .tup [.str "inferred", .str "f", .tup []], .tup [.str "add_class"], .tup [.str "add_class", .str "b"], .tup [.str "add_class", .str "b", .str "any", .tup []], .tup [.str "add_class", .str "b", .str "any", .ref 71, .ref 72], .tup [.str "add_class", .str "b", .str "any", .ref 75], .tup [.str "add_class", .str "b", .str "any", .ref 76], .tup [.str "define", .str "f", .tup [.str "a"]], .tup [.str "define", .str "f", .tup [.str "a"], .tup [.str "int", .int 1], .int 0], .tup [.str "delete", .str "f"], .tup [.str "define", .str "f", .tup [.str "a"], .tup [.str "int", .int 1], .ref 81], .tup [.str "delete", .str "f", .tup [.str "a"], .ref 82], .tup [.str "call"], .tup [.str "call", .str "f"], .tup [.str "call", .str "f", .tup [.int 1], .int 0], .tup [.str "call", .str "f", .ref 85, .tup [.int 1]], .tup [.str "call", .str "f", .tup [.int 1], .ref 86, .ref 87], .tup [.str "call", .str "f", .tup [.int 1], .ref 90], .tup [.str "call", .str "f", .tup [.int 1], .ref 91], .tup [.str "call", .str "f", .tup [.int 1], .ref 92], .tup [.str "call", .str "f", .tup [.int 1], .ref 93], .tup [.str "begin", .str "f", .tup [.int 1], .ref 96], .tup [.str "begin", .str "f", .tup [.int 1], .int 5], .tup [.str "advance", .int 0], .tup [.str "advance", .int 0, .int 1, .int 1], .tup [.str "advance", .int 0, .int 1, .ref 99], .tup [.str "result"], .tup [.str "result", .int 0, .int 0], .tup [.str "result", .int 0, .ref 100], .tup [.str "compile_entry", .str "f", .tup [.str "a"], .ref 103], .tup [.str "compile_entry", .str "f", .tup [.str "a"], .non], .tup [.str "run", .str "f"]],
  .dK [(.inr "worlds", .int 0)],
  .lst [],
  .lst [],
  .lst [],
  .dK [(.inr "changes", .ref 111)],
  .lst [],
  .lst [.tup [.str "run", .str "f", .tup [.int 1], .ref 106], .tup [.str "apply"], .tup [.str "apply", .ref 107, .ref 108], .tup [.str "apply", .ref 109, .ref 110]]]
def C0 : Sto := [.dK [],
  .dK [],
  .dK [(.inr "steps", .int 0), (.inr "world", .str "no")],
  .lst [.tup [.str "call", .str "f", .tup [.int 1]], .tup [.str "call", .str "f", .tup [.int 1], .ref 114], .tup [.str "call", .non, .ref 115, .ref 116]],
  .dK [],
  .dK [],
  .dK [],
  .dK [],
  .dK [],
  .dK [],
  .dK [],
  .lst [.tup [.str "define", .str "f", .tup [.str "any"], .tup [.str "int", .int 8]], .tup [.str "define", .ref 118, .ref 119, .ref 120], .tup [.str "define", .ref 121, .ref 122, .ref 123, .ref 124]],
  .lst [.tup [.str "call", .str "f", .tup [.int 1]], .tup [.str "call", .str "f", .tup [.int 1], .ref 114], .tup [.str "call", .non, .ref 115, .ref 116], .tup [.str "define", .str "f", .tup [.str "any"], .tup [.str "int", .int 8]], .tup [.str "define", .ref 118, .ref 119, .ref 120], .tup [.str "define", .ref 121, .ref 122, .ref 123, .ref 124]],
  .dK [],
  .dK [(.inr "steps", .int 3)],
  .dK [],
  .dK [],
  .dK [],
  .lst [.tup [.str "delete", .str "f", .ref 127], .tup [.str "begin", .str "f", .tup [.int 2], .ref 128], .tup [.str "advance", .int 0, .ref 129], .tup [.str "advance", .ref 130, .int 1, .ref 131]],
  .lst [.tup [.str "call", .str "f", .tup [.int 1]], .tup [.str "call", .str "f", .tup [.int 1], .ref 114], .tup [.str "call", .non, .ref 115, .ref 116], .tup [.str "define", .str "f", .tup [.str "any"], .tup [.str "int", .int 8]], .tup [.str "define", .ref 118, .ref 119, .ref 120], .tup [.str "define", .ref 121, .ref 122, .ref 123, .ref 124], .tup [.str "delete", .str "f", .ref 127], .tup [.str "begin", .str "f", .tup [.int 2], .ref 128], .tup [.str "advance", .int 0, .ref 129], .tup [.str "advance", .ref 130, .int 1, .ref 131]],
  .dK [],
  .dK [],
  .dK [(.inr "fields", .tup [])],
  .lst [],
  .dK [],
  .lst [.tup [.str "result", .ref 134], .tup [.str "result", .int 0, .ref 135], .tup [.str "add_class", .str "c", .str "any", .ref 136], .tup [.str "add_class", .ref 137, .ref 138]],
  .lst [.tup [.str "call", .str "f", .tup [.int 1]], .tup [.str "call", .str "f", .tup [.int 1], .ref 114], .tup [.str "call", .non, .ref 115, .ref 116], .tup [.str "define", .str "f", .tup [.str "any"], .tup [.str "int", .int 8]], .tup [.str "define", .ref 118, .ref 119, .ref 120], .tup [.str "define", .ref 121, .ref 122, .ref 123, .ref 124], .tup [.str "delete", .str "f", .ref 127], .tup [.str "begin", .str "f", .tup [.int 2], .ref 128], .tup [.str "advance", .int 0, .ref 129], .tup [.str "advance", .ref 130, .int 1, .ref 131], .tup [.str "result", .ref 134], .tup [.str "result", .int 0, .ref 135], .tup [.str "add_class", .str "c", .str "any", .ref 136], .tup [.str "add_class", .ref 137, .ref 138]],
  .dK [(.inr "world", .non)],
  .dK [],
  .lst [],
  .lst [.tup [.str "compile_entry", .str "f", .tup [.str "a"], .ref 141], .tup [.str "run", .str "f", .tup [.int 1]], .tup [.str "apply", .ref 142], .tup [.str "apply", .ref 143]]]
def Bs : Sto := B0 ++ [.lst odds]
def BC : Sto := Bs ++ (C0 ++ [.lst steps])
def m_stLast : MS := sRet (eLc 300 (iRange1 (aCons (eCall 2 [] M__law_draw (aCons (eVar 0) (aCons (eC (.int 7)) (aNil)))) (aNil))) (.nm 2) (tYesM) (eCall 2 [] M__law_one (aCons (eVar 0) (aCons (eVar 1) (aNil)))) [2])
theorem well_begun (o : OB) : (M__law_begun [] [o]).bind (fun r S => (M__law_no_steps [] S).bind fun q S2 => .ok (r, q) S2) = .ok (.ref 1, .ref 113) (o :: Bs) := by kernel_rfl
theorem steps_head (o : OB) : m__law_steps [some (.ref 0), none, none] (o :: Bs) = m_stLast [some (.ref 0), some (.ref 145), none] (o :: BC) := by kernel_rfl
end SG
set_option Elab.async false
set_option linter.all false
set_option maxRecDepth 100000
set_option maxHeartbeats 0
namespace SG
open PySem PySem.Spec PyProof.Rows L2 SL L2H
/-! ### one of a list -/
theorem one_ok {a b c : Int} {T : Sto} {j : Nat} {xs : List D} (hj : T[j]? = some (.lst xs)) (h0 : 0 < xs.length) (h1 : xs.length < 1000) (ha : 0 ≤ a) (hb : 0 ≤ b ∧ b < 2147483647) (hc : 0 ≤ c ∧ c < 1000) :
    ∃ x a' c', M__law_one [.ref 0, .ref (j + 1)] (.lst [.int a, .int b, .int c] :: T) = .ok x (.lst [.int a', .int b, .int c'] :: T) ∧ x ∈ xs ∧ 0 ≤ a' ∧ 0 ≤ c' ∧ c' ≤ c + 1 := by
  obtain ⟨d, a', c', e, d0, d1, a0, c0, c1⟩ := draw_ok (m := (xs.length : Int)) T ha hb hc ⟨by omega, by omega⟩
  obtain ⟨n, rfl⟩ := Int.eq_ofNat_of_zero_le d0
  have hn : n < xs.length := by omega
  refine ⟨xs[n], a', c', ?_, List.getElem_mem hn, a0, c0, c1⟩
  have hx : atI xs ((n : Nat) : Int) = some xs[n] := by
    unfold atI ixN
    rw [if_pos (by omega), if_pos (by omega)]
    simp [hn]
  simp [M__law_one, fnM, startD, m__law_one, sRet, eOp2, eVar, eCall, aCons, aNil, eN, oLen, itemsOf, hj, Res.bind, ofO, e, oIX, altO2, oIxT, oIxL, hx]
/-! ### the steps that are drawn -/
theorem lc_one {b : Int} (hb : 0 ≤ b ∧ b < 2147483647) {T : Sto} (hT : T.length = 145) (hs : T[144]? = some (.lst steps)) : ∀ (k i n : Nat) (acc : List D) (a c : Int), n - i = k → i ≤ n → n < 250 → acc.length ≤ i → 0 ≤ a → 0 ≤ c → c + k < 900 → (∀ d ∈ acc, d ∈ steps) →
    ∃ ds a' c', lcM (iRng 0 n) (.nm 2) tYesM (eCall 2 [] M__law_one (aCons (eVar 0) (aCons (eVar 1) aNil))) [some (.ref 0), some (.ref 145), none] 146 (300 - i) i (.lst [.int a, .int b, .int c] :: (T ++ [.lst acc])) = .ok (.ref 146) (.lst [.int a', .int b, .int c'] :: (T ++ [.lst ds])) ∧
      ds.length = acc.length + k ∧ (∀ d ∈ ds, d ∈ steps) ∧ 0 ≤ a' ∧ 0 ≤ c' ∧ c' ≤ c + k
  | 0, i, n, acc, a, c, e, h1, h2, h3, ha, hc, hc2, hd => by
    have e0 : 300 - i = (299 - i) + 1 := by omega
    refine ⟨acc, a, c, ?_, by omega, hd, ha, hc, by omega⟩
    rw [e0]
    simp [lcM, iRng, show ¬ i < n by omega]
  | k + 1, i, n, acc, a, c, e, h1, h2, h3, ha, hc, hc2, hd => by
    have e0 : 300 - i = (300 - (i + 1)) + 1 := by omega
    have hj : (T ++ [OB.lst acc])[144]? = some (.lst steps) := by rw [List.getElem?_append_left (by omega)]; exact hs
    obtain ⟨x, a1, c1, e1, hx, a0, c0, cc⟩ := one_ok (T := T ++ [OB.lst acc]) hj (by decide +kernel) (by decide +kernel) ha hb ⟨hc, by omega⟩
    obtain ⟨ds, a', c', r, l, m, q1, q2, q3⟩ := lc_one hb hT hs k (i + 1) n (acc ++ [x]) a1 c1 (by omega) (by omega) h2 (by rw [List.length_append]; simp; omega) a0 c0 (by omega) (fun d hd' => (List.mem_append.mp hd').elim (hd d) fun z => by rw [List.mem_singleton.mp z]; exact hx)
    refine ⟨ds, a', c', ?_, by rw [l, List.length_append]; simp; omega, m, q1, q2, by omega⟩
    rw [e0]
    have hset : (T ++ [OB.lst acc]).set 145 (.lst (acc ++ [x])) = T ++ [.lst (acc ++ [x])] := by
      rw [List.set_append, if_neg (by omega), hT]
      rfl
    have hget : (T ++ [OB.lst acc])[145]? = some (.lst acc) := by
      rw [List.getElem?_append_right (by omega)]
      simp [hT]
    have hal : acc.length < 1000000 := by omega
    simp only [lcM, iRng, show i < n by omega, if_true, Tg.put, tYesM, noErr, Res.bind]
    simp [eCall, aCons, aNil, eVar, Res.bind, e1, noErr, hget, hal, hset]
    rw [show 299 - i = 300 - (i + 1) by omega]
    exact r
end SG
set_option Elab.async false
set_option linter.all false
set_option maxRecDepth 100000
set_option maxHeartbeats 400000
namespace SG
open PySem PySem.Spec PyProof.Rows L2 SL L2H
theorem BC_len : BC.length = 145 := by decide +kernel
theorem BC_steps : BC[144]? = some (.lst steps) := by kernel_rfl
theorem BC_odds : BC[112]? = some (.lst odds) := by kernel_rfl
abbrev W3 (a b c : Int) : OB := .lst [.int a, .int b, .int c]
theorem steps_ok {a b c : Int} (ha : 0 ≤ a) (hb : 0 ≤ b ∧ b < 2147483647) (hc : 0 ≤ c ∧ c + 10 < 900) :
    ∃ ds a' c', M__law_steps [.ref 0] (W3 a b c :: Bs) = .ok (.ref 146) (W3 a' b c' :: (BC ++ [.lst ds])) ∧ ds.length ≤ 6 ∧ (∀ d ∈ ds, d ∈ steps) ∧ 0 ≤ a' ∧ 0 ≤ c' ∧ c' ≤ c + 7 := by
  obtain ⟨d, a1, c1, e1, d0, d1, a0, c0, cc⟩ := draw_ok (m := 7) BC ha hb ⟨hc.1, by omega⟩ ⟨by omega, by omega⟩
  obtain ⟨n, rfl⟩ := Int.eq_ofNat_of_zero_le d0
  obtain ⟨ds, a', c', e2, l2, m2, q1, q2, q3⟩ := lc_one hb BC_len BC_steps n 0 n [] a1 c1 (by omega) (by omega) (by omega) (by simp) a0 c0 (by omega) (fun _ h => nomatch h)
  refine ⟨ds, a', c', ?_, by simp at l2; omega, m2, q1, q2, by omega⟩
  have h1 : -4611686018427387904 ≤ (n : Int) := by omega
  have h2 : (n : Int) < 4611686018427387904 := by omega
  unfold M__law_steps fnM
  rw [show startD 3 [D.ref 0] = [some (.ref 0), none, none] from rfl, steps_head]
  simp [m_stLast, sRet, eLc, iRange1, aCons, aNil, eCall, eVar, eC, Res.bind, e1, h1, h2, wipeD, BC_len]
  rw [show (300 : Nat) = 300 - 0 by rfl, e2]
end SG
set_option Elab.async false
set_option linter.all false
set_option maxRecDepth 100000
set_option maxHeartbeats 400000
namespace SG
open PySem PySem.Spec PyProof.Rows L2 SL L2H
/-! ### is_step, at each of them -/
def grb (m : List D → Sto → Res D) (d : D) (S : Sto) : Sto := match m [d] S with
  | .ok _ S' => S'.drop S.length
  | _ => []
theorem step_all (a b c : Int) : steps.map (fun d => M_is_step [d] (W3 a b c :: BC)) = steps.map (fun d => .ok (.bl true) ((W3 a b c :: BC) ++ grb M_is_step d (W3 a b c :: BC))) := by kernel_rfl
theorem odd_all (a b c : Int) : odds.map (fun d => M_is_step [d] (W3 a b c :: BC)) = odds.map (fun d => .ok (.bl false) ((W3 a b c :: BC) ++ grb M_is_step d (W3 a b c :: BC))) := by kernel_rfl
theorem closed_BC (a b c : Int) : closedN 146 (W3 a b c :: BC) = true := by kernel_rfl
theorem closed_Bs (a b c : Int) : closedN 114 (W3 a b c :: Bs) = true := by kernel_rfl
theorem und_steps : (steps.all fun d => D.unds 146 [d]) = true := by decide +kernel
theorem und_odds : (odds.all fun d => D.unds 146 [d]) = true := by decide +kernel
theorem fr_bool {m : List D → Sto → Res D} {d : D} {v : Bool} {S0 G X : Sto} {n0 : Nat} (h : m [d] S0 = .ok (.bl v) (S0 ++ G)) (hl : S0.length = n0) (hd : D.unds n0 [d] = true) (hc : closedN n0 S0 = true) : frM n0 m [d] (S0 ++ X) = .ok (.bl v) (S0 ++ X) := by
  have e1 : cutAt n0 (S0 ++ X) = n0 := by
    unfold cutAt
    rw [List.length_append]
    omega
  have t0 : (S0 ++ X).take n0 = S0 := by rw [← hl]; exact List.take_left
  have t1 : (S0 ++ G).take n0 = S0 := by rw [← hl]; exact List.take_left
  have d0 : (S0 ++ X).drop n0 = X := by rw [← hl]; exact List.drop_left
  have c0 : closedN n0 (S0 ++ X) = true := by
    unfold closedN at hc ⊢
    rw [t0, ← hl] at *
    rw [List.take_length] at hc
    exact hc
  have c1 : closedN n0 (S0 ++ G) = true := by
    unfold closedN at hc ⊢
    rw [t1, ← hl] at *
    rw [List.take_length] at hc
    exact hc
  unfold frM
  rw [e1, hd, c0, t0, h]
  simp only [Bool.and_self, if_true, D.und, c1, t1, d0]
theorem is_step_t {a b c : Int} {X : Sto} {d : D} (hd : d ∈ steps) : M_is_step_fr [d] (W3 a b c :: (BC ++ X)) = .ok (.bl true) (W3 a b c :: (BC ++ X)) :=
  fr_bool (S0 := W3 a b c :: BC) (List.map_inj_left.mp (step_all a b c) d hd) (by rw [List.length_cons, BC_len] <;> rfl) (List.all_eq_true.mp und_steps d hd) (closed_BC a b c)
theorem is_step_f {a b c : Int} {X : Sto} {d : D} (hd : d ∈ odds) : M_is_step_fr [d] (W3 a b c :: (BC ++ X)) = .ok (.bl false) (W3 a b c :: (BC ++ X)) :=
  fr_bool (S0 := W3 a b c :: BC) (List.map_inj_left.mp (odd_all a b c) d hd) (by rw [List.length_cons, BC_len] <;> rfl) (List.all_eq_true.mp und_odds d hd) (closed_BC a b c)
theorem unt_all (a b c : Int) : M__law_untouched [.ref 1] (W3 a b c :: BC) = .ok (.bl true) ((W3 a b c :: BC) ++ grb M__law_untouched (.ref 1) (W3 a b c :: BC)) := by kernel_rfl
theorem unt_t {a b c : Int} {X : Sto} : M__law_untouched_fr [.ref 1] (W3 a b c :: (BC ++ X)) = .ok (.bl true) (W3 a b c :: (BC ++ X)) :=
  fr_bool (S0 := W3 a b c :: BC) (unt_all a b c) (by rw [List.length_cons, BC_len] <;> rfl) (by decide +kernel) (closed_BC a b c)
end SG
set_option Elab.async false
set_option linter.all false
set_option maxRecDepth 100000
set_option maxHeartbeats 400000
namespace SG
open PySem SL
/-! ### do refuses -/
abbrev doBody : MS := sIf (tNot (tOf (eCall 1 [] M_is_step_fr (aCons (eVar 3) aNil)))) (sRaise "NoStep" "at" (eVar 2)) sNil
def doIt (r : Nat) : Src := fun i S => match S[r]? with
  | some (.lst ds) => some (ds[i]?.map fun d => .tup [.int i, d])
  | _ => none
theorem do_for {S : Sto} {rt r : D} {n : Nat} {pre post : List D} {d : D} (hS : S[n]? = some (.lst (pre ++ d :: post))) (hT : ∀ e ∈ pre, M_is_step_fr [e] S = .ok (.bl true) S) (hF : M_is_step_fr [d] S = .ok (.bl false) S) (hl : pre.length < 290) :
    ∀ (k i : Nat) (x y : Option D), pre.length - i = k → i ≤ pre.length → SL.forM (doIt n) (.tp [.nm 2, .nm 3]) doBody (300 - i) i [some rt, some r, x, y] S = .err "NoStep" [("at", .int pre.length)] S
  | 0, i, x, y, e, h => by
    have hi : i = pre.length := by omega
    subst hi
    rw [show 300 - pre.length = (299 - pre.length) + 1 by omega]
    simp [SL.forM, doIt, hS, Tg.put, puts, doBody, sIf, tNot, tOf, eCall, aCons, aNil, eVar, Res.bind, hF, sRaise]
  | k + 1, i, x, y, e, h => by
    have hi : i < pre.length := by omega
    rw [show 300 - i = (300 - (i + 1)) + 1 by omega]
    have ih := do_for (rt := rt) (r := r) hS hT hF hl k (i + 1) (some (.int i)) (some pre[i]) (by omega) (by omega)
    simp only [SL.forM, doIt, hS, List.getElem?_append_left hi, List.getElem?_eq_getElem hi, Option.map_some, Tg.put, puts]
    simp [doBody, sIf, tNot, tOf, eCall, aCons, aNil, eVar, Res.bind, hT _ (List.getElem_mem hi), sNil]
    rw [show 299 - i = 300 - (i + 1) by omega]
    exact ih
theorem do_err {S : Sto} {rt : D} {n : Nat} {pre post : List D} {d : D} (hS : S[n]? = some (.lst (pre ++ d :: post))) (hT : ∀ e ∈ pre, M_is_step_fr [e] S = .ok (.bl true) S) (hF : M_is_step_fr [d] S = .ok (.bl false) S) (hl : pre.length < 290) :
    M_do [rt, .ref n] S = .err "NoStep" [("at", .int pre.length)] S := by
  have z := do_for (rt := rt) (r := .ref n) hS hT hF hl pre.length 0 none none (by omega) (by omega)
  have t : tyOf (.ref n) S = some "list" := by simp [tyOf, hS]
  have c : tysB.contains "list" = true := by decide
  have c2 : isT "list" "list" = true := by decide
  unfold M_do fnM
  rw [show startD 4 [rt, .ref n] = [some rt, some (.ref n), none, none] from rfl]
  simp only [m_do, sSeq, sIf, tNot, tOf, eN, aCons, aNil, eVar, eC, Res.bind, List.getElem?_cons_zero, List.getElem?_cons_succ, oIsi, t, c, c2, if_true, ofO, Bool.not_true, Bool.false_eq_true, if_false, sNil, sFor, SL.iEnum, hS]
  have z : SL.forM (doIt n) (Tg.tp [Tg.nm 2, Tg.nm 3]) doBody 300 0 [some rt, some (D.ref n), none, none] S = .err "NoStep" [("at", .int pre.length)] S := z
  erw [z]
/-- what is no list -/
theorem do_non {S : Sto} {rt d : D} {t : String} (h : tyOf d S = some t) (ht : isT t "list" = false) : M_do [rt, d] S = .err "NoStep" [("at", .non)] S := by
  have c : tysB.contains "list" = true := by decide
  unfold M_do fnM
  rw [show startD 4 [rt, d] = [some rt, some d, none, none] from rfl]
  have e : oIsi tabI [d, .ty "list"] S = some (.bl false, S) := by
    simp only [oIsi, h, c, if_true, ht]
  simp [m_do, sSeq, sIf, tNot, tOf, eN, aCons, aNil, eVar, eC, Res.bind, e, ofO, sRaise]
end SG
set_option Elab.async false
set_option linter.all false
set_option maxRecDepth 100000
set_option maxHeartbeats 400000
namespace SG
open PySem SL
abbrev LL (x0 x1 x5 x6 x7 x8 x9 x10 : Option D) : SL.Loc := [x0, x1, some (.ref 0), some (.ref 1), some (.ref 113), x5, x6, x7, x8, x9, x10]
section
variable {a b c : Int} {x0 x1 x5 x6 x7 x8 x9 x10 : Option D}
theorem tn1 (ha : 0 ≤ a) (hb : 0 ≤ b ∧ b < 2147483647) (hc : 0 ≤ c ∧ c + 20 < 900) :
    ∃ ds x a' c', m_lawS21 (LL x0 x1 x5 x6 x7 x8 x9 x10) (W3 a b c :: Bs) = .ok (.nx, LL x0 x1 x5 (some (.ref 146)) (some x) x8 x9 x10) (W3 a' b c' :: (BC ++ [.lst ds])) ∧ ds.length ≤ 6 ∧ (∀ d ∈ ds, d ∈ steps) ∧ x ∈ odds ∧ 0 ≤ a' ∧ 0 ≤ c' ∧ c' ≤ c + 8 := by
  obtain ⟨ds, a1, c1, e1, l1, m1, q1, q2, q3⟩ := steps_ok ha hb ⟨hc.1, by omega⟩
  have hj : (BC ++ [OB.lst ds])[112]? = some (.lst odds) := by rw [List.getElem?_append_left (by rw [BC_len]; omega)]; exact BC_odds
  obtain ⟨x, a2, c2, e2, hx, p1, p2, p3⟩ := one_ok hj (by decide +kernel) (by decide +kernel) q1 hb ⟨q2, by omega⟩
  refine ⟨ds, x, a2, c2, ?_, l1, m1, hx, p1, p2, by omega⟩
  simp [m_lawS21, sAsg, eTup, aCons, aNil, eCall, eVar, Res.bind, e1, e2, Tg.put, puts]
theorem tn2 {ds : List D} {x : D} (hl : ds.length ≤ 6) (ha : 0 ≤ a) (hb : 0 ≤ b ∧ b < 2147483647) (hc : 0 ≤ c ∧ c + 20 < 950) :
    ∃ (n : Nat) (a' c' : Int), m_lawS20 (LL x0 x1 x5 (some (.ref 146)) (some x) x8 x9 x10) (W3 a b c :: (BC ++ [.lst ds])) = .ok (.nx, LL x0 x1 x5 (some (.ref 146)) (some x) (some (.int n)) x9 x10) (W3 a' b c' :: (BC ++ [.lst ds])) ∧ n ≤ ds.length ∧ 0 ≤ a' ∧ 0 ≤ c' ∧ c' ≤ c + 1 := by
  obtain ⟨d, a1, c1, e1, d0, d1, a0, c0, cc⟩ := draw_ok (m := (ds.length : Int) + 1) (BC ++ [.lst ds]) ha hb ⟨hc.1, by omega⟩ ⟨by omega, by omega⟩
  obtain ⟨n, rfl⟩ := Int.eq_ofNat_of_zero_le d0
  have hj : (BC ++ [OB.lst ds])[145]? = some (.lst ds) := by rw [List.getElem?_append_right (by rw [BC_len]; omega), BC_len]; rfl
  refine ⟨n, a1, c1, ?_, by omega, a0, c0, cc⟩
  simp [m_lawS20, sSet, aCons, aNil, eCall, eVar, eC, eN, eOp2, Res.bind, oLen, itemsOf, hj, ofO, oPlus, altO2, oAdd, oI2, e1]
theorem tn3 {ds : List D} {x : D} {n : Nat} (ha : 0 ≤ a) (hb : 0 ≤ b ∧ b < 2147483647) (hc : 0 ≤ c ∧ c + 20 < 950) :
    ∃ (y : D) (ys : List D) (a' c' : Int), m_lawS19 (LL x0 x1 x5 (some (.ref 146)) (some x) (some (.int n)) x9 x10) (W3 a b c :: (BC ++ [.lst ds])) = .ok (.nx, LL x0 x1 x5 (some (.ref 146)) (some x) (some (.int n)) (some (.ref 148)) x10) (W3 a' b c' :: (BC ++ [.lst ds, .lst [y], .lst ys])) ∧ ys.length ≤ 1 ∧ 0 ≤ a' ∧ 0 ≤ c' ∧ c' ≤ c + 2 := by
  have hj : (BC ++ [OB.lst ds])[112]? = some (.lst odds) := by rw [List.getElem?_append_left (by rw [BC_len]; omega)]; exact BC_odds
  obtain ⟨y, a1, c1, e1, hy, p1, p2, p3⟩ := one_ok hj (by decide +kernel) (by decide +kernel) ha hb ⟨hc.1, by omega⟩
  obtain ⟨d, a2, c2, e2, d0, d1, a0, c0, cc⟩ := draw_ok (m := 2) (BC ++ [.lst ds, .lst [y]]) p1 hb ⟨p2, by omega⟩ ⟨by omega, by omega⟩
  obtain ⟨n2, rfl⟩ := Int.eq_ofNat_of_zero_le d0
  have hj2 : (BC ++ [OB.lst ds, OB.lst [y]])[146]? = some (.lst [y]) := by rw [List.getElem?_append_right (by rw [BC_len]; omega), BC_len]; rfl
  refine ⟨y, (List.replicate n2 [y]).flatten, a2, c2, ?_, ?_, a0, c0, by omega⟩
  · have h1 : (n2 : Int) < 1000 := by omega
    simp [m_lawS19, sSet, aCons, aNil, eCall, eLst, eVar, eC, eN, eOp2, Res.bind, e1, BC_len, e2, ofO, oMul, altO2, oMulI, oRep, hj2, h1]
  · have : n2 ≤ 1 := by omega
    simp
    exact this
end
end SG
set_option Elab.async false
set_option linter.all false
set_option maxRecDepth 100000
set_option maxHeartbeats 400000
namespace SG
open PySem SL
theorem cut_lo {ds : List D} {n : Nat} (h : n ≤ ds.length) : cutD ds none (some (n : Int)) = ds.take n := by
  unfold cutD
  rw [HT.sIx_nat, HT.sIx_none, Nat.min_eq_left h]
  rfl
theorem cut_hi {ds : List D} {n : Nat} (h : n ≤ ds.length) : cutD ds (some (n : Int)) none = ds.drop n := by
  unfold cutD
  rw [HT.sIx_nat, HT.sIx_none, Nat.min_eq_left h]
  exact List.take_of_length_le (by rw [List.length_drop]; omega)
theorem at_BC {X : Sto} (k : Nat) : (BC ++ X)[145 + k]? = X[k]? := by
  rw [List.getElem?_append_right (by rw [BC_len]; omega), BC_len]
  congr 1
  omega
section
variable {a b c : Int} {x0 x1 x5 x6 x7 x8 x9 x10 : Option D}
theorem tn4 {ds ys : List D} {x y : D} {n : Nat} (hn : n ≤ ds.length) (hl : ds.length ≤ 6) (hy : ys.length ≤ 1) :
    ∃ X, m_lawS18 (LL x0 x1 x5 (some (.ref 146)) (some x) (some (.int n)) (some (.ref 148)) x10) (W3 a b c :: (BC ++ [.lst ds, .lst [y], .lst ys])) = .ok (.nx, LL x0 x1 x5 (some (.ref 146)) (some x) (some (.int n)) (some (.ref 148)) (some (.ref 154))) (W3 a b c :: (BC ++ X)) ∧ (W3 a b c :: (BC ++ X))[154]? = some (.lst (ds.take n ++ x :: (ds.drop n ++ ys))) ∧ (W3 a b c :: (BC ++ X))[146]? = some (.lst ds) := by
  have g (X : Sto) (k : Nat) : (BC ++ X)[145 + k]? = X[k]? := at_BC k
  have g0 (X : Sto) : (BC ++ X)[145]? = X[0]? := g X 0
  have g2 (X : Sto) : (BC ++ X)[147]? = X[2]? := g X 2
  have g3 (X : Sto) : (BC ++ X)[148]? = X[3]? := g X 3
  have g4 (X : Sto) : (BC ++ X)[149]? = X[4]? := g X 4
  have g5 (X : Sto) : (BC ++ X)[150]? = X[5]? := g X 5
  have g6 (X : Sto) : (BC ++ X)[151]? = X[6]? := g X 6
  have g7 (X : Sto) : (BC ++ X)[152]? = X[7]? := g X 7
  have g8 (X : Sto) : (BC ++ X)[153]? = X[8]? := g X 8
  have l1 : min n ds.length + 1 < 1000000 := by omega
  have l2 : min n ds.length + 1 + (ds.length - n) < 1000000 := by omega
  have l3 : min n ds.length + 1 + (ds.length - n) + ys.length < 1000000 := by omega
  have l4 : min n ds.length + (ds.length - n + 1) < 1000000 := by omega
  have l5 : min n ds.length + (ds.length - n + 1) + ys.length < 1000000 := by omega
  have l6 : min n ds.length + (ds.length - n + 1 + ys.length) < 1000000 := by omega
  refine ⟨[.lst ds, .lst [y], .lst ys, .lst (ds.take n), .lst [x], .lst (ds.take n ++ [x]), .lst (ds.drop n), .lst (ds.take n ++ [x] ++ ds.drop n), .lst (ds.take n ++ [x] ++ ds.drop n ++ ys)], ?_, ?_, ?_⟩
  · simp [m_lawS18, sSet, eOp2, eSl, pNone, pSome, eVar, Res.bind, ofO, oSL, altOS, oSlT, oSlL, g0, g2, g3, g4, g5, g6, g7, g8, cut_lo hn, cut_hi hn, BC_len, eLst, aCons, aNil, oPlus, altO2, oAdd, oI2, oCatT, oCatL, l1, l2, l3, l4, l5, l6]
  · simp [g8]
  · simp [g0]
theorem ne_self (S : Sto) : ∀ n : Nat, n ≤ 6 → oNE (.tup [.str "step", .int n]) (.tup [.str "step", .int n]) S = some (.bl false, S)
  | 0, _ => by kernel_rfl
  | 1, _ => by kernel_rfl
  | 2, _ => by kernel_rfl
  | 3, _ => by kernel_rfl
  | 4, _ => by kernel_rfl
  | 5, _ => by kernel_rfl
  | 6, _ => by kernel_rfl
  | n + 7, h => absurd h (by omega)
theorem ne_none (S : Sto) : oNE (.tup [.str "step", .non]) (.tup [.str "step", .non]) S = some (.bl false, S) := by kernel_rfl
theorem tn5 {ds ys : List D} {x : D} {n : Nat} {X : Sto} (hn : n ≤ ds.length) (hl : ds.length ≤ 6) (hd : ∀ d ∈ ds, d ∈ steps) (hx : x ∈ odds) (hS : (W3 a b c :: (BC ++ X))[154]? = some (.lst (ds.take n ++ x :: (ds.drop n ++ ys)))) :
    m_lawS17 (LL x0 x1 x5 x6 x7 (some (.int n)) x9 (some (.ref 154))) (W3 a b c :: (BC ++ X)) = .ok (.nx, LL x0 x1 x5 x6 x7 (some (.int n)) x9 (some (.ref 154))) (W3 a b c :: (BC ++ X)) := by
  have e := do_err (rt := .ref 1) hS (fun e he => is_step_t (hd e (List.mem_of_mem_take he))) (is_step_f hx) (by rw [List.length_take]; omega)
  have hlen : (ds.take n).length = n := by rw [List.length_take]; omega
  rw [hlen] at e
  have hat : (("at" : Str) == ("at" : Str)) = true := by decide
  simp [m_lawS17, sIf, tOr, tOf, tNot, eOp2, eSaid, eCall, aCons, aNil, eVar, eC, eTup, Res.bind, e, sd80, List.lookup, hat, noErr, ofO, ne_self _ n (by omega), unt_t, sNil]
theorem tn6 {ds : List D} {n : Nat} {X : Sto} (h6 : (W3 a b c :: (BC ++ X))[146]? = some (.lst ds)) :
    m_lawS15 (LL x0 x1 x5 (some (.ref 146)) x7 x8 x9 x10) (W3 a b c :: (BC ++ X)) = .ok (.nx, LL x0 x1 x5 (some (.ref 146)) x7 x8 x9 x10) (W3 a b c :: (BC ++ X)) := by
  have e := do_non (S := W3 a b c :: (BC ++ X)) (rt := .ref 1) (d := .tup ds) (t := "tuple") rfl (by decide)
  have hat : (("at" : Str) == ("at" : Str)) = true := by decide
  have ei : itemsOf (.ref 146) (W3 a b c :: (BC ++ X)) = some ds := by simp only [itemsOf, h6]
  simp only [m_lawS15, sIf, tOf, eOp2, eSaid, eCall, eN, oTupOf, aCons, aNil, eVar, eC, eTup, Res.bind, List.getElem?_cons_zero, List.getElem?_cons_succ, ei, Option.map_some, ofO]
  simp [e, sd80, List.lookup, hat, noErr, Res.bind, ofO, ne_none, sNil]
end
end SG
set_option Elab.async false
set_option linter.all false
set_option maxRecDepth 100000
set_option maxHeartbeats 400000
namespace SG
open PySem SL
section
variable {a b c : Int} {x0 x1 x5 x6 x7 x8 x9 x10 : Option D}
theorem Bs_len : Bs.length = 113 := by decide +kernel
theorem BC_eq : BC = Bs ++ (C0 ++ [.lst steps]) := rfl
/-- one turn -/
theorem turn_ok (ha : 0 ≤ a) (hb : 0 ≤ b ∧ b < 2147483647) (hc : 0 ≤ c ∧ c + 40 < 900) :
    ∃ y0 y1 y5 y6 y7 y8 y9 y10 a' c', gcS m_lawB22 (LL x0 x1 x5 x6 x7 x8 x9 x10) (W3 a b c :: Bs) = .ok (.nx, LL y0 y1 y5 y6 y7 y8 y9 y10) (W3 a' b c' :: Bs) ∧ 0 ≤ a' ∧ 0 ≤ c' ∧ c' ≤ c + 11 := by
  obtain ⟨ds, x, a1, c1, e1, l1, m1, hx, p1, p2, p3⟩ := tn1 (x0 := x0) (x1 := x1) (x5 := x5) (x6 := x6) (x7 := x7) (x8 := x8) (x9 := x9) (x10 := x10) ha hb ⟨hc.1, by omega⟩
  obtain ⟨n, a2, c2, e2, hn, q1, q2, q3⟩ := tn2 (x0 := x0) (x1 := x1) (x5 := x5) (x8 := x8) (x9 := x9) (x10 := x10) (ds := ds) (x := x) l1 p1 hb ⟨p2, by omega⟩
  obtain ⟨y, ys, a3, c3, e3, hy, r1, r2, r3⟩ := tn3 (x0 := x0) (x1 := x1) (x5 := x5) (x9 := x9) (x10 := x10) (ds := ds) (x := x) (n := n) q1 hb ⟨q2, by omega⟩
  obtain ⟨X, e4, g1, g2⟩ := tn4 (a := a3) (b := b) (c := c3) (x0 := x0) (x1 := x1) (x5 := x5) (x10 := x10) (x := x) (y := y) hn l1 hy
  have e5 := tn5 (x0 := x0) (x1 := x1) (x5 := x5) (x6 := some (.ref 146)) (x7 := some x) (x9 := some (.ref 148)) hn l1 m1 hx g1
  have e6 := tn6 (n := n) (x0 := x0) (x1 := x1) (x5 := x5) (x7 := some x) (x8 := some (.int n)) (x9 := some (.ref 148)) (x10 := some (.ref 154)) g2
  have e : m_lawB22 (LL x0 x1 x5 x6 x7 x8 x9 x10) (W3 a b c :: Bs) = .ok (.nx, LL x0 x1 x5 (some (.ref 146)) (some x) (some (.int n)) (some (.ref 148)) (some (.ref 154))) (W3 a3 b c3 :: (BC ++ X)) := by
    simp only [m_lawB22, sSeq, e1, e2, e3, e4, e5, e6, Res.bind]
  have ln : (W3 a b c :: Bs).length = 114 := by rw [List.length_cons, Bs_len]
  have tk : (W3 a3 b c3 :: (BC ++ X)).take 114 = W3 a3 b c3 :: Bs := by
    rw [BC_eq, List.append_assoc, show (114 : Nat) = 113 + 1 from rfl, List.take_succ_cons, List.take_left' Bs_len]
  have cl : closedN 114 (W3 a3 b c3 :: (BC ++ X)) = true := by
    have z := closed_Bs a3 b c3
    unfold closedN at z ⊢
    rw [tk]
    rwa [List.take_of_length_le (by rw [List.length_cons, Bs_len] <;> omega)] at z
  refine ⟨keepD 114 x0, keepD 114 x1, keepD 114 x5, keepD 114 (some (.ref 146)), keepD 114 (some x), keepD 114 (some (.int n)), keepD 114 (some (.ref 148)), keepD 114 (some (.ref 154)), a3, c3, ?_, r1, r2, by omega⟩
  unfold gcS
  rw [e, ln]
  simp only [Fl.und, cl, tk, Bool.and_self, if_true, List.map_cons, List.map_nil]
  rfl
theorem turns_ok (hb : 0 ≤ b ∧ b < 2147483647) : ∀ (k i : Nat) (a c : Int) (x0 x1 x5 x6 x7 x8 x9 x10 : Option D), 12 - i = k → i ≤ 12 → 0 ≤ a → 0 ≤ c → c ≤ 12 * i →
    ∃ y0 y1 y5 y6 y7 y8 y9 y10 a' c', SL.forM (iRng 0 12) (.nm 5) (gcS m_lawB22) (300 - i) i (LL x0 x1 x5 x6 x7 x8 x9 x10) (W3 a b c :: Bs) = .ok (.nx, LL y0 y1 y5 y6 y7 y8 y9 y10) (W3 a' b c' :: Bs)
  | 0, i, a, c, x0, x1, x5, x6, x7, x8, x9, x10, e, h, ha, hc, hc2 => by
    have hi : i = 12 := by omega
    subst hi
    exact ⟨x0, x1, x5, x6, x7, x8, x9, x10, a, c, by simp [SL.forM, iRng]⟩
  | k + 1, i, a, c, x0, x1, x5, x6, x7, x8, x9, x10, e, h, ha, hc, hc2 => by
    obtain ⟨y0, y1, y5, y6, y7, y8, y9, y10, a1, c1, e1, p1, p2, p3⟩ := turn_ok (x0 := x0) (x1 := x1) (x5 := some (.int (0 + (i : Int)))) (x6 := x6) (x7 := x7) (x8 := x8) (x9 := x9) (x10 := x10) ha hb ⟨hc, by omega⟩
    obtain ⟨z0, z1, z5, z6, z7, z8, z9, z10, a2, c2, e2⟩ := turns_ok hb k (i + 1) a1 c1 y0 y1 y5 y6 y7 y8 y9 y10 (by omega) (by omega) p1 p2 (by omega)
    refine ⟨z0, z1, z5, z6, z7, z8, z9, z10, a2, c2, ?_⟩
    rw [show 300 - i = (300 - (i + 1)) + 1 by omega]
    simp only [SL.forM, iRng, show i < 12 by omega, if_true, Tg.put, List.set_cons_succ, List.set_cons_zero]
    rw [show ([x0, x1, some (D.ref 0), some (D.ref 1), some (D.ref 113), some (D.int (0 + (i : Int))), x6, x7, x8, x9, x10] : SL.Loc) = LL x0 x1 (some (.int (0 + (i : Int)))) x6 x7 x8 x9 x10 from rfl, e1]
    exact e2
end
end SG
set_option Elab.async false
set_option linter.all false
set_option maxRecDepth 100000
set_option maxHeartbeats 400000
namespace SG
open PySem SL
section
variable {a b c : Int} {x0 x1 x5 x6 x7 x8 x9 x10 : Option D}
/-! ### the odd ones, each alone -/
theorem odd_body (a b c : Int) (x0 x1 x5 x6 x8 x9 x10 : Option D) : odds.map (fun x => gcS m_lawB12 (LL x0 x1 x5 x6 (some x) x8 x9 x10) (W3 a b c :: Bs)) = odds.map (fun x => .ok (.nx, LL (keepD 114 x0) (keepD 114 x1) (keepD 114 x5) (keepD 114 x6) (keepD 114 (some x)) (keepD 114 x8) (keepD 114 x9) (keepD 114 x10)) (W3 a b c :: Bs)) := by kernel_rfl
def oddIt : Src := fun i S => match S[(113 : Nat)]? with
  | some (.lst ds) => some ds[i]?
  | _ => none
theorem odds_loop : ∀ (k i : Nat) (x0 x1 x5 x6 x7 x8 x9 x10 : Option D), odds.length - i = k → i ≤ odds.length →
    ∃ y0 y1 y5 y6 y7 y8 y9 y10, SL.forM oddIt (.nm 7) (gcS m_lawB12) (300 - i) i (LL x0 x1 x5 x6 x7 x8 x9 x10) (W3 a b c :: Bs) = .ok (.nx, LL y0 y1 y5 y6 y7 y8 y9 y10) (W3 a b c :: Bs)
  | 0, i, x0, x1, x5, x6, x7, x8, x9, x10, e, h => by
    have hl : odds.length < 200 := by decide +kernel
    have hi : odds[i]? = none := List.getElem?_eq_none (by omega)
    have hg : (W3 a b c :: Bs)[113]? = some (.lst odds) := by kernel_rfl
    rw [show 300 - i = (299 - i) + 1 by omega]
    exact ⟨x0, x1, x5, x6, x7, x8, x9, x10, by simp only [SL.forM, oddIt, hg, hi]⟩
  | k + 1, i, x0, x1, x5, x6, x7, x8, x9, x10, e, h => by
    have hl : odds.length < 200 := by decide +kernel
    have hlt : i < odds.length := by omega
    have hi : odds[i]? = some odds[i] := List.getElem?_eq_getElem hlt
    have hg : (W3 a b c :: Bs)[113]? = some (.lst odds) := by kernel_rfl
    have e1 := List.map_inj_left.mp (odd_body a b c x0 x1 x5 x6 x8 x9 x10) odds[i] (List.getElem_mem hlt)
    obtain ⟨z0, z1, z5, z6, z7, z8, z9, z10, e2⟩ := odds_loop k (i + 1) (keepD 114 x0) (keepD 114 x1) (keepD 114 x5) (keepD 114 x6) (keepD 114 (some odds[i])) (keepD 114 x8) (keepD 114 x9) (keepD 114 x10) (by omega) (by omega)
    refine ⟨z0, z1, z5, z6, z7, z8, z9, z10, ?_⟩
    rw [show 300 - i = (300 - (i + 1)) + 1 by omega]
    simp only [SL.forM, oddIt, hg, hi, Tg.put, List.set_cons_succ, List.set_cons_zero]
    rw [show ([x0, x1, some (D.ref 0), some (D.ref 1), some (D.ref 113), x5, x6, some odds[i], x8, x9, x10] : SL.Loc) = LL x0 x1 x5 x6 (some odds[i]) x8 x9 x10 from rfl, e1]
    exact e2
/-! ### what is no list; the steps that are refused; a task -/
def mFin : MS := sSeq m_lawS9 (sSeq m_lawS5 (sSeq m_lawS3 m_lawS1))
def outOf (r : Res (Fl × SL.Loc)) : SL.Loc × Sto := match r with
  | .ok f S => (f.2, S)
  | _ => ([], [])
theorem fin_ok (a b c : Int) (x0 x1 x5 x6 x7 x8 x9 x10 : Option D) : mFin (LL x0 x1 x5 x6 x7 x8 x9 x10) (W3 a b c :: Bs) = .ok (.nx, (outOf (mFin (LL x0 x1 x5 x6 x7 x8 x9 x10) (W3 a b c :: Bs))).1) (outOf (mFin (LL x0 x1 x5 x6 x7 x8 x9 x10) (W3 a b c :: Bs))).2 := by kernel_rfl
theorem fin_len (a b c : Int) (x0 x1 x5 x6 x7 x8 x9 x10 : Option D) : (outOf (mFin (LL x0 x1 x5 x6 x7 x8 x9 x10) (W3 a b c :: Bs))).1.length = 11 := by kernel_rfl
end
end SG
set_option Elab.async false
set_option linter.all false
set_option maxRecDepth 100000
set_option maxHeartbeats 400000
namespace SG
open PySem SL
theorem begun_odds (o : OB) : ∃ S1, M__law_begun [] [o] = .ok (.ref 1) S1 ∧ M__law_no_steps [] S1 = .ok (.ref 113) (o :: Bs) := by
  have z := well_begun o
  cases e : M__law_begun [] [o] with
  | bad => rw [e] at z; cases z
  | err C fs S => rw [e] at z; cases z
  | ok r S1 =>
    rw [e] at z
    have z : (M__law_no_steps [] S1).bind (fun q S2 => .ok (r, q) S2) = .ok (.ref 1, .ref 113) (o :: Bs) := z
    cases e2 : M__law_no_steps [] S1 with
    | bad => rw [e2] at z; cases z
    | err C fs S => rw [e2] at z; cases z
    | ok q S2 =>
      rw [e2] at z
      have z : Res.ok (r, q) S2 = .ok (.ref 1, .ref 113) (o :: Bs) := z
      injection z with z1 z2
      injection z1 with z3 z4
      subst z2 z3 z4
      exact ⟨S1, rfl, e2⟩
theorem well_ok (v : Int) : ∃ a, M__law_well [.int v] [] = .ok (.ref 0) [W3 a (v % 2147483647) 0] ∧ 0 ≤ a := by
  have p : (10 : Int) ^ 18 = 1000000000000000000 := by decide
  by_cases h : (1000000000000000000 : Int) ≤ v
  · refine ⟨v, ?_, by omega⟩
    simp [M__law_well, fnM, startD, m__law_well, sRet, eLst, aCons, aNil, eOp2, eVar, eC, eN, Res.bind, oPow, ofO, oGe, oI2, oInt, oMul, altO2, oMulI, oMod, p, h]
  · refine ⟨0, ?_, by omega⟩
    simp [M__law_well, fnM, startD, m__law_well, sRet, eLst, aCons, aNil, eOp2, eVar, eC, eN, Res.bind, oPow, ofO, oGe, oI2, oInt, oMul, altO2, oMulI, oMod, p, h]
theorem at113 (o : OB) : (o :: Bs)[(113 : Nat)]? = some (.lst odds) := by kernel_rfl
theorem iany_odd {l : SL.Loc} {S : Sto} {m : ME} (h : m l S = .ok (.ref 113) S) (hS : S[(113 : Nat)]? = some (.lst odds)) : iANY m l S = .ok oddIt S := by
  simp only [iANY, altI, iSeq, iLst, h, hS, Res.bind]
  rfl
theorem sSeq_eq {p q : MS} {l l1 : SL.Loc} {S S1 : Sto} {r : Res (Fl × SL.Loc)} (h : p l S = .ok (.nx, l1) S1) (h2 : q l1 S1 = r) : sSeq p q l S = r := by
  unfold sSeq
  rw [h]
  exact h2
theorem sFor_eq {n : Nat} {mi : MI} {t : Tg} {bd : MS} {l : SL.Loc} {S S1 : Sto} {it : Src} {r : Res (Fl × SL.Loc)} (h : mi l S = .ok it S1) (h2 : SL.forM it t bd n 0 l S1 = r) : sFor n mi t bd l S = r := by
  unfold sFor
  rw [h]
  exact h2
theorem odds_stmt {a b c : Int} {y0 y1 y5 y6 y7 y8 y9 y10 : Option D} {r : Res (Fl × SL.Loc)} (e5 : SL.forM oddIt (.nm 7) (gcS m_lawB12) 300 0 (LL y0 y1 y5 y6 y7 y8 y9 y10) (W3 a b c :: Bs) = r) : m_lawS13 (LL y0 y1 y5 y6 y7 y8 y9 y10) (W3 a b c :: Bs) = r :=
  sFor_eq (iany_odd (m := eVar 4) (l := LL y0 y1 y5 y6 y7 y8 y9 y10) (S := W3 a b c :: Bs) rfl (at113 _)) e5
abbrev L0 (v : Int) : SL.Loc := [none, some (.int v), none, none, none, none, none, none, none, none, none]
theorem law_ok (v : Int) : ∃ l S, m_law (L0 v) [] = .ok (.nx, l) S ∧ l.length = 11 := by
  obtain ⟨a, e1, ha⟩ := well_ok v
  obtain ⟨S1, e2, e3⟩ := begun_odds (W3 a (v % 2147483647) 0)
  have hb : 0 ≤ v % 2147483647 ∧ v % 2147483647 < 2147483647 := ⟨Int.emod_nonneg _ (by decide), Int.emod_lt_of_pos _ (by decide)⟩
  obtain ⟨y0, y1, y5, y6, y7, y8, y9, y10, a2, c2, e4⟩ := turns_ok hb 12 0 a 0 none (some (.int v)) none none none none none none rfl (by omega) ha (by omega) (by omega)
  obtain ⟨z0, z1, z5, z6, z7, z8, z9, z10, e5⟩ := odds_loop (a := a2) (b := v % 2147483647) (c := c2) odds.length 0 y0 y1 y5 y6 y7 y8 y9 y10 (by omega) (by omega)
  simp only [Nat.sub_zero] at e4 e5
  have e6 := fin_ok a2 (v % 2147483647) c2 z0 z1 z5 z6 z7 z8 z9 z10
  have s1 : m_lawS25 (L0 v) [] = .ok (.nx, [none, some (.int v), some (.ref 0), none, none, none, none, none, none, none, none]) [W3 a (v % 2147483647) 0] := by
    simp [m_lawS25, sSet, eCall, aCons, aNil, eVar, Res.bind, e1]
  have s2 : m_lawS24 [none, some (.int v), some (.ref 0), none, none, none, none, none, none, none, none] [W3 a (v % 2147483647) 0] = .ok (.nx, LL none (some (.int v)) none none none none none none) (W3 a (v % 2147483647) 0 :: Bs) := by
    simp [m_lawS24, sAsg, eTup, eCall, aCons, aNil, Res.bind, e2, e3, Tg.put, puts]
  have s3 : m_lawS23 (LL none (some (.int v)) none none none none none none) (W3 a (v % 2147483647) 0 :: Bs) = .ok (.nx, LL y0 y1 y5 y6 y7 y8 y9 y10) (W3 a2 (v % 2147483647) c2 :: Bs) := by
    exact sFor_eq (it := iRng 0 12) (S1 := W3 a (v % 2147483647) 0 :: Bs) (by simp [iRange1, aCons, aNil, eC, Res.bind]) e4
  have s4 := odds_stmt e5
  exact ⟨_, _, sSeq_eq s1 (sSeq_eq s2 (sSeq_eq s3 (sSeq_eq s4 e6))), fin_len _ _ _ _ _ _ _ _ _ _ _⟩
end SG
set_option Elab.async false
set_option linter.all false
set_option maxRecDepth 100000
set_option maxHeartbeats 0
namespace SG
open PySem PySem.Spec PyProof.Rows L2 SL
def spLaw (K : PySem.W.Frag) : Sp := fun vs H Q _ => ∃ (a : Addr) (ns : List Int), vs = [.ref a] ∧ SqL K H a (ns.map V.int) ∧ ns.length ≤ 63 ∧ LamX.Tabs (LT K) H ∧ ∀ H', Q (.bl true) H'
theorem rel_nil {P : Program} {w : World} {K : PySem.W.Frag} {H : Hp} (t : LamX.Tabs (LT K) H) : Rel P w K [] [] H := ⟨rfl, List.nodup_nil, t, fun n a o h => by simp at h⟩
abbrev NL : List Str := ["_law_script", "_law_cell", "_law_well_here", "_law_runtime", "_law_odds", "_law_turn", "_law_some", "_law_odd", "_law_at", "_law_later", "_law_listed"]
theorem cut5 {xs : List V} {x : V} (h : x ∈ cutV xs none (some 5)) : x ∈ xs := by
  unfold cutV at h
  exact List.mem_of_mem_drop (List.mem_of_mem_take h)
theorem sqL_new {K : PySem.W.Frag} {H : Hp} {a p : Addr} {u : HO} {xs : List V} (h : SqL K H a xs) (hp : H p = none) : SqL K (upd H p u) a xs := by
  rcases h with (h | ⟨o, h⟩) | h
  · exact .inl (.inl (by rw [upd_ne (ne_of_none h hp)]; exact h))
  · exact .inl (.inr ⟨o, by rw [upd_ne (ne_of_none h hp)]; exact h⟩)
  · exact .inr h
theorem tabs_new {T : List (Addr × Str)} {H : Hp} {p : Addr} {u : HO} (t : LamX.Tabs T H) (hp : H p = none) : LamX.Tabs T (upd H p u) := t.ext fun b o e => by rw [upd_ne (ne_of_none e hp)]; exact e
theorem okl {P : Program} {w : World} {K : PySem.W.Frag} {mg : Str → Option Value} {base : Heap} (F : Fx K w mg) (T : TBs K base mg) {fd : FuncData} (FL : FunD K "law" "law" (defArgs s_law) (defBody s_law) (defScope s_law) [] [] (He.ga K "law") fd) :
    FnOk P w K mg base (L2.CX P w) 14 (He.ga K "law") fd ["_law_script"] (spLaw K) := by
  have FL' := FL
  obtain ⟨⟨oc, od, dV, kV, doc, pm, an, cdv, ct, osl, rfl, lk, hcd, dok, kok⟩, kp⟩ := FL
  refine fn_of lk hcd sc_law (fun vs H Q E ⟨a, ns, e, _⟩ => by rw [e]; rfl) fun A outer s H vs Q E hr ⟨a, ns, e, hS, hl, hT, hQ⟩ => ?_
  subst e
  have tk : Takes (cxOf (L2.CX P w) P w K mg base NL "law" (defScope s_law) (He.ga K "law") cdv A outer s H E) fun cls d _ H' => E cls d H' := takes_of rfl rfl rfl rfl
  refine ⟨_, pss_cons (ps_for PassesOwn.leaving rfl (pi_list (pe_slice sl_list (pe_op op_catS (pe_var (i := 0) rfl (.inl rfl)) (pe_lst (pa_cons pe_int pa_nil))) po_none (po_some pe_int))) (pg_name (i := 1) sc_law.nd rfl (.inl rfl)) ((s_lawFor F T FL' rfl hr).run _ tk)) (pss_one (ps_ret pe_bl)), ?_⟩
  have one : (1 : Nat) ≤ sizeLine := by rw [sizeLine_eq]; omega
  refine ⟨_, rfl, one, fun p hp => ⟨a, p, ns.map V.int, [.int 0], rfl, rfl, ?_, .of upd_same, ?_, fun p2 hp2 => ?_⟩⟩
  · exact sqL_new hS hp
  · show (ns.map V.int).length + 1 ≤ sizeLine
    rw [List.length_map, sizeLine_eq]
    omega
  · refine ⟨5, rfl, p2, _, rfl, .of upd_same, fun p3 hp3 => ⟨p3, rfl, ⟨_, .of upd_same⟩, ?_⟩⟩
    have t1 := tabs_new (u := .lst (cutV (ns.map V.int ++ [.int 0]) none (some 5))) (tabs_new (u := .lst (ns.map V.int ++ [.int 0])) (tabs_new (u := .lst [.int 0]) hT hp) hp2) hp3
    refine for_list (K := K) (a := p3) (xs := cutV (ns.map V.int ++ [.int 0]) none (some 5)) (fun i σ H' => LamX.Tabs (LT K) H' ∧ H' p3 = some (.lst (cutV (ns.map V.int ++ [.int 0]) none (some 5))) ∧ σ.length = 11) ⟨t1, upd_same, rfl⟩ (fun i σ H' _ ⟨_, h, _⟩ => .of h) (fun i x σ H' hx ⟨ht, h3, hlen⟩ => ?_) fun σ H' _ => hQ H'
    obtain ⟨v, rfl⟩ : ∃ v, x = .int v := by
      rcases List.mem_append.mp (cut5 (List.mem_of_getElem? hx)) with z | z
      · obtain ⟨v, _, e⟩ := List.mem_map.mp z
        exact ⟨v, e.symm⟩
      · exact ⟨0, List.mem_singleton.mp z⟩
    obtain ⟨l, S, e, hll⟩ := law_ok v
    refine ⟨[], [], L0 v, rel_nil ht, ⟨?_, fun n d hn => ?_⟩, ?_⟩
    · rw [List.length_set, hlen]
      rfl
    · have hn1 : n = 1 ∧ d = .int v := by
        match n, hn with
        | 0, hn => cases hn
        | 1, hn => cases hn; exact ⟨rfl, rfl⟩
        | 2, hn => cases hn
        | 3, hn => cases hn
        | 4, hn => cases hn
        | 5, hn => cases hn
        | 6, hn => cases hn
        | 7, hn => cases hn
        | 8, hn => cases hn
        | 9, hn => cases hn
        | 10, hn => cases hn
        | n + 11, hn => cases hn
      obtain ⟨rfl, rfl⟩ := hn1
      exact ⟨.int v, by rw [List.getElem?_set_self (by rw [hlen]; omega)], .int v⟩
    · rw [e]
      intro R' H2 x2 r2 σ' hl'
      exact ⟨r2.tab, x2.keep _ _ h3 (fun z => nomatch z) (fun _ z => nomatch z), by rw [← hl'.1, hll]⟩
end SG
set_option Elab.async false
set_option linter.all false
set_option maxRecDepth 100000
set_option maxHeartbeats 0
namespace SG
open PySem PySem.Spec PyProof.Rows L2 SL
theorem tabIn_cT {K : PySem.W.Frag} {x : Str} {c P : Addr} (h : PySem.W.tabIn K x = some (c, P)) : He.cT K (x, none) = (c, P) := by
  unfold PySem.W.tabIn at h
  split at h
  · rename_i f hf
    have e : He.fAd K (x, none) = f := by
      show He.ga K x = f
      unfold He.ga
      rw [hf]
    split at h
    · rename_i lk
      split at h
      · rename_i c' hc
        split at h
        · rename_i vs _ lc
          split at h
          · rename_i P' hP
            cases h
            have e1 : He.codeOf K (x, none) = c := He.codeOf_eq (by rw [e]; exact lk) hc
            unfold He.cT
            rw [e1]
            unfold He.tabOf
            rw [lc]
            have e2 : vs.getD 11 .none = .ref P := by
              rw [Array.getD_eq_getD_getElem?, hP]
              rfl
            simp only [e2]
          · cases h
        · cases h
      · cases h
    · cases h
  · cases h
theorem only_law {K : PySem.W.Frag} {w : World} {mg : Str → Option Value} (F : Fx K w mg) {x : Str} (hx : x ∈ LTn) {c P : Addr} (h : PySem.W.tabIn K x = some (c, P)) : x = "law" := by
  have z := List.all_eq_true.mp (show (LTn.all fun x => decide (x = "law") || (PySem.W.tabIn K x).isNone) = true from h_oth F) x hx
  rcases Bool.or_eq_true_iff.mp z with z | z
  · exact of_decide_eq_true z
  · rw [h] at z
    cases z
theorem law_at {w : World} {K : PySem.W.Frag} {mg : Str → Option Value} {fa0 : Addr} {h : Heap} (KX : K.In h) (G : h.Ns mainGlobals mg) (hmg : mg ("law" : Str) = some (.ref fa0)) (c : He.SaysX fa fn ts tf SG.ex w h K) :
    LamX.LawAtS PySem.Challenge.rw_worldcalls_k80_what_are_no_steps w K (L2.CX (PySem.Challenge.rw_worldcalls_k80_what_are_no_steps).prog w) 14 63 "_law_script" mg fa0 h := by
  have F : Fx K w mg := ⟨⟨h, tf, [], KX, G, c⟩⟩
  obtain ⟨fd, FL0⟩ := F_law F
  have FL : FunD K "law" "law" (defArgs s_law) (defBody s_law) (defScope s_law) [] [] (He.ga K "law") fd := FL0
  have e := hmg.symm.trans (g_law F)
  cases e
  have b := FunD.bindsA (ps := ["_law_script"]) FL fun _ _ _ _ _ _ us hl => match us, hl with | [_], _ => rfl
  have mem : ((("law" : Str), (none : Option Str)) : He.Defn) ∈ tf := List.mem_cons_self
  refine ⟨fd, [He.cT K (("law" : Str), (none : Option Str))], spLaw K, fun p hp => ?_, fun p hp => ?_, fun p hp => ?_, fun s u => b s [u] rfl, fun H a ns hl _ hH hS => ⟨a, ns, rfl, hS, hl, fun p hp => ?_, fun _ => rfl⟩, fun base _ _ hB => okl F (fun x hx c P hc => ?_) FL⟩
  · rw [List.mem_singleton.mp hp]; exact c.empty _ mem
  · rw [List.mem_singleton.mp hp]; exact c.out _ mem
  · rw [List.mem_singleton.mp hp]; exact PySem.W.codeHd_of_K KX (c.hd _ mem)
  · obtain ⟨x, hx, ex⟩ := List.mem_filterMap.mp hp
    cases q : PySem.W.tabIn K x with
    | none => rw [q] at ex; cases ex
    | some r =>
      obtain ⟨c', P⟩ := r
      rw [q] at ex
      have e2 : (P, x ++ (".<locals>." : Str) ++ ("<lambda>" : Str)) = p := Option.some.inj ex
      have el := only_law F hx q
      subst el
      subst e2
      have z := hH _ List.mem_cons_self
      rw [tabIn_cT q] at z
      exact LamX.TabS.nil z
  · have el := only_law F hx hc
    subst el
    have z := hB _ List.mem_cons_self
    rw [tabIn_cT hc] at z
    exact z
end SG
open PySem PySem.W PySem.Calls PyProof.Rows
theorem PySem.Challenge.cw_worldcalls_k80_what_are_no_steps_holds : PySem.Challenge.rw_worldcalls_k80_what_are_no_steps.Holds := by
  w_on; o_law
  refine HandSHeadRun.head_any (r := OpenLaw.row PySem.Challenge.rw_worldcalls_k80_what_are_no_steps) (q := SG.qv) (H := SG.hk) (ob := SG.ob) (M := 13000) (loose := SG.names) (d := HandSHeadRun.topDef (OpenLaw.row PySem.Challenge.rw_worldcalls_k80_what_are_no_steps).prog 139) (kwd := []) SG.ob_eq
    (by kernel_rfl) (fun s => by kernel_rfl) (fun w => byRow2 "special-get-raises" SG.runF SG.runT w) (by kernel_rfl) (by kernel_rfl) (by kernel_rfl) (by rfl) (by first | assumption | decide +kernel) (by decide +kernel) ⟨rfl, rfl, rfl, rfl, rfl, by decide +kernel⟩ ?hw ?hc
  case hw => w_witness2
  case hc =>
    refine LamX.walk_ofTsE (l := PySem.Challenge.rw_worldcalls_k80_what_are_no_steps) (n := 63) (k := 14) (x := "_law_script") (CX := fun w => L2.CX (PySem.Challenge.rw_worldcalls_k80_what_are_no_steps).prog w) rfl (by decide) (by kernel_rfl) ⟨rfl, by decide, by decide⟩ ?F (fun _ _ _ _ _ ⟨_, _, _, _, _, _, _, _, _, _, _, _, z⟩ => z)
    intro w mg fa h Y G hmg0
    obtain ⟨K, KX, c⟩ := Y
    have hmg : mg ("law" : PySem.Str) = some (.ref fa) := by
      have e : (HandSHeadRun.topDef (OpenLaw.row PySem.Challenge.rw_worldcalls_k80_what_are_no_steps).prog 139).name = ("law" : PySem.Str) := by kernel_rfl
      rw [← e]
      exact hmg0
    exact ⟨K, KX, SG.law_at KX G hmg c⟩
