import PyProof.Rows.All
import Wide.All
import OpenK.AllK
import Wide.FinOn
import HandS.ForMost
import HandS.ForExc
import HandS.Walk
import HandS.CallSlots
import HandS.Lambda
import HandS.TupAny
import HandS.TupMul
import HandS.IsInst
import HandS.Deep
import HandS.RaiseMore
import HandS.Defaults
import HandS.Zip
import HandS.WordsExc
import KE.GoesMore
import HandS.HeadEnd
import HandS.HeadHook1
import HandS.HeadHook2
import HandS.HeadHook3
import HandS.HeadHook4
import HandS.Head0
import HandS.Head1
import HandS.Head2
import HandS.Strs
import KE.SortData
import KE.DataMinMax
import HandS.Text
import HandS.Small
import HandS.Conv
import HandS.More
import HandS.Style
import PyProof.StrBlock2
import KE.KRevSl
import HandS.RevTup
import KE.KDictPairs
import HandS.ReplaceLit
import HandS.CallLocal
import HandS.SetTxt0
import HandS.SetFor
import HandS.ExcIs
import HandS.HotCalls
import PySem.Challenge.RW_doorhouse_k47_rights_that_nobody_has
import PyProof.DictUpdate
import HandS.TupSets
set_option Elab.async false
set_option linter.all false
set_option maxRecDepth 100000
set_option maxHeartbeats 8000000
/-! DH: what is looked at behind the head's run, and that run in parts: it stands first, where there is most room -/
namespace DH
section
open PySem L2
def lamDefs : List Str := ["law", "_law_right", "_law_begins_right", "_law_words", "_law_can", "_law_seen", "_law_lets_right", "_law_asked"]
def tabAt (K : PySem.W.Frag) (cd : Value) : Option Addr := match cd with
  | .ref c => match K.lookup c with
    | some ⟨.type "code", _, .fields vs, _⟩ => match vs.getD 11 .none, vs.getD 18 .none, vs.getD 7 .none, vs.getD 9 .none, vs.getD 10 .none with
      | .ref P, .str _ _, .int _ _, .bool _, .int _ _ => if c ≠ P ∧ K.lookup P = none then some P else none
      | _, _, _, _, _ => none
    | _ => none
  | _ => none
def tbOf (K : PySem.W.Frag) (x : Str) : Option (Addr × Str) := match PySem.W.nsIn K mainGlobals x with
  | some (some (.ref a)) => match K.lookup a with
    | some o => match o.data with
      | .func fd => (tabAt K fd.code).map fun P => (P, x ++ ".<locals>." ++ "<lambda>")
      | _ => none
    | none => none
  | _ => none
def tbK (K : PySem.W.Frag) : List (Addr × Str) := lamDefs.filterMap (tbOf K)
def noD (K : PySem.W.Frag) (x : Str) : Bool := match K.lookup (He.ga K x) with
  | some o => o.dict.isNone
  | none => false
def lamIn (K : PySem.W.Frag) (names : List Str) : Bool := lamDefs.all fun x => match PySem.W.nsIn K mainGlobals x with
  | some (some (.ref _)) => names.contains x
  | _ => true
def excCB (K : PySem.W.Frag) (D : Addr) : Bool := He.eqO (PySem.W.findIn K (.ref D) "__getattribute__") (some (some (.builtin "BaseException.__getattribute__"))) && (He.eqO (PySem.W.findIn K (.ref D) "__getattr__") (some none) && (decide (PySem.W.subIn K (.ref D) (.type "BaseException") = some true) && (PySem.W.hasDictIn K D &&
  (He.eqO (PySem.W.findIn K (.ref D) "__class__") (some (some (.builtin "object.__class__"))) && (He.eqO (PySem.W.specialIn K (.builtin "object.__class__") "__get__") (some (some (.builtin "getset_descriptor.__get__"))) && (decide (PySem.W.takesIn K (.builtin "object.__class__") = some true) && decide (PySem.W.mroIn K D (.type "object") = some true)))))))
def excTabB (K : PySem.W.Frag) (ns : List Str) (sub : Str → Str → Bool) : Bool := ns.all fun n => (He.Fa.glo n).ok K && (excCB K (He.ga K n) && (decide (PySem.W.kitOne K (.ref (He.ga K n)) (.type "ValueError") = some true) &&
  ns.all fun c => decide (PySem.W.kitOne K (.ref (He.ga K n)) (.ref (He.ga K c)) = some (sub n c)) && decide (PySem.W.exmOne K (.ref (He.ga K n)) (.ref (He.ga K c)) = some (sub n c))))
def lamB (K : PySem.W.Frag) (ls : List Str) : Bool := (ls.all fun x => lamDefs.contains x && (tbOf K x).isSome) && ((tbK K).all fun p => (tbK K).all fun p' => decide (p.1 = p'.1 → p'.2 = p.2))
def emptyTupB (K : PySem.W.Frag) (a : Addr) : Bool := match K.lookup a with
  | some ⟨.type "tuple", none, .seq its _, _⟩ => its.isEmpty
  | _ => false
end
section
open PySem PySem.W PySem.Calls PyProof.Rows HandSHeadRun
theorem obsX_app {n : Nat} {fa1 fa2 : List He.Fa} {fn1 fn2 : List He.DefD} {ex : PySem.W.Frag → Bool} {g : Addr → Option Obj} {w : World} (h1 : He.obsX n fa1 fn1 [] [] ex g = He.valX fn1 [] w) (h2 : He.obsX n fa2 fn2 [] [] (fun _ => true) g = He.valX fn2 [] w) :
    He.obsX n (fa1 ++ fa2) (fn1 ++ fn2) [] [] ex g = He.valX (fn1 ++ fn2) [] w := by
  simp only [He.obsX, He.valX, He.obsT, He.valT, He.obsD, He.valD, Prod.mk.injEq, List.map_nil, and_true, Bool.and_eq_true, List.all_append, List.map_append] at h1 h2 ⊢
  obtain ⟨⟨⟨a1, a2⟩, a3⟩, a4⟩ := h1
  obtain ⟨⟨⟨b1, b2⟩, b3⟩, b4⟩ := h2
  exact ⟨⟨⟨⟨a1, b1⟩, a2, b2⟩, by rw [a3, b3]⟩, a4⟩
noncomputable abbrev EndF (r : OpenRow) (M : Nat) (w : World) (os : OsState) : Option SharedT := endF (stepQ (denQ tabQ) r.prog w) M r.prog w os
abbrev SeenP (r : OpenRow) (q : Program) (M : Nat) (loose : List PySem.Str) (w : World) : Prop := ∀ os : OsState, (EndF r M w os).map (fun s => seenQ q loose (importedModules r.prog.main.body) (fun s => xlAt q [] s && recOk r.toRowW.records s) s.abs) = some (openGood q loose)
abbrev LookP (r : OpenRow) (M : Nat) (w : World) : Prop := ∀ os : OsState, (EndF r M w os).map (fun s => looksF r.prog (boot_heap w.params) s.abs) = some true
abbrev ObsP (r : OpenRow) (M : Nat) (n : Nat) (fa : List He.Fa) (fn : List He.DefD) (ex : PySem.W.Frag → Bool) (w : World) : Prop := ∀ os : OsState, (EndF r M w os).map (fun s => He.obsX n fa fn [] [] ex (getT s)) = some (He.valX fn [] w)
theorem ObsP.app {r : OpenRow} {M n : Nat} {fa1 fa2 : List He.Fa} {fn1 fn2 : List He.DefD} {ex : PySem.W.Frag → Bool} {w : World} (h1 : ObsP r M n fa1 fn1 ex w) (h2 : ObsP r M n fa2 fn2 (fun _ => true) w) : ObsP r M n (fa1 ++ fa2) (fn1 ++ fn2) ex w := fun os => by
  obtain ⟨s, e, a⟩ := Option.map_eq_some_iff.mp (h1 os)
  obtain ⟨s', e', b⟩ := Option.map_eq_some_iff.mp (h2 os)
  rw [e] at e'
  cases e'
  rw [e]
  exact congrArg some (obsX_app a b)
theorem run_parts {r : OpenRow} {q : Program} {M n : Nat} {fa : List He.Fa} {fn : List He.DefD} {ex : PySem.W.Frag → Bool} {loose : List PySem.Str} {w : World} (h1 : LookP r M w) (h2 : SeenP r q M loose w) (h3 : ObsP r M n fa fn ex w) :
    RunEq r q (He.hookX n fa fn [] [] ex) (fun s => He.obsX n fa fn [] [] ex (getT s)) M loose w := fun os => by
  obtain ⟨s, e, a⟩ := Option.map_eq_some_iff.mp (h1 os)
  obtain ⟨s', e', b⟩ := Option.map_eq_some_iff.mp (h2 os)
  rw [e] at e'
  cases e'
  obtain ⟨s', e', c⟩ := Option.map_eq_some_iff.mp (h3 os)
  rw [e] at e'
  cases e'
  have e2 : endF (stepQ (denQ tabQ) r.prog w) M r.prog w os = some s := e
  rw [e2]
  exact congrArg some (Prod.ext a (Prod.ext b c))
end
end DH
namespace Lw
open PySem L2 DH
def top (i : Nat) : Stmt := PySem.Challenge.pw_doorhouse_k47_rights_that_nobody_has.main.body.getD i (.Pass ⟨0, 0, 0, 0⟩)
def lamNames : List Str := []
def viewNames : List Str := ["law"]
abbrev s_is_made_of : Stmt := top 8
abbrev s_is_name : Stmt := top 9
abbrev s_is_word : Stmt := top 10
abbrev s_is_shaped : Stmt := top 11
abbrev s_are_unlike : Stmt := top 12
abbrev s_are_rising : Stmt := top 13
abbrev s_is_owner : Stmt := top 15
abbrev s_is_who : Stmt := top 24
abbrev s_is_rights_deed : Stmt := top 25
abbrev s_is_rule : Stmt := top 26
abbrev s_are_rules : Stmt := top 27
abbrev s_need_rules : Stmt := top 28
abbrev s_are_roles : Stmt := top 29
abbrev s_is_for : Stmt := top 30
abbrev s_let_by : Stmt := top 31
abbrev s_is_person : Stmt := top 32
abbrev s_are_people : Stmt := top 33
abbrev s_nobody : Stmt := top 34
abbrev s__law_cell : Stmt := top 36
abbrev s__law_pen : Stmt := top 37
abbrev s__law_draw : Stmt := top 38
abbrev s__law_pick : Stmt := top 39
abbrev s__law_kinds : Stmt := top 40
abbrev s__law_rules : Stmt := top 41
abbrev s__law_let : Stmt := top 42
abbrev s__law_people : Stmt := top 43
abbrev s__law_told : Stmt := top 44
abbrev s_law : Stmt := top 45
def d_is_made_of : He.DefD := ⟨("is_made_of", none), "is_made_of", "is_made_of", defArgs s_is_made_of, defBody s_is_made_of, defScope s_is_made_of, [], []⟩
def d_is_name : He.DefD := ⟨("is_name", none), "is_name", "is_name", defArgs s_is_name, defBody s_is_name, defScope s_is_name, [], []⟩
def d_is_word : He.DefD := ⟨("is_word", none), "is_word", "is_word", defArgs s_is_word, defBody s_is_word, defScope s_is_word, [], []⟩
def d_is_shaped : He.DefD := ⟨("is_shaped", none), "is_shaped", "is_shaped", defArgs s_is_shaped, defBody s_is_shaped, defScope s_is_shaped, [], []⟩
def d_are_unlike : He.DefD := ⟨("are_unlike", none), "are_unlike", "are_unlike", defArgs s_are_unlike, defBody s_are_unlike, defScope s_are_unlike, [], []⟩
def d_are_rising : He.DefD := ⟨("are_rising", none), "are_rising", "are_rising", defArgs s_are_rising, defBody s_are_rising, defScope s_are_rising, [], []⟩
def d_is_owner : He.DefD := ⟨("is_owner", none), "is_owner", "is_owner", defArgs s_is_owner, defBody s_is_owner, defScope s_is_owner, [], []⟩
def d_is_who : He.DefD := ⟨("is_who", none), "is_who", "is_who", defArgs s_is_who, defBody s_is_who, defScope s_is_who, [], []⟩
def d_is_rights_deed : He.DefD := ⟨("is_rights_deed", none), "is_rights_deed", "is_rights_deed", defArgs s_is_rights_deed, defBody s_is_rights_deed, defScope s_is_rights_deed, [], []⟩
def d_is_rule : He.DefD := ⟨("is_rule", none), "is_rule", "is_rule", defArgs s_is_rule, defBody s_is_rule, defScope s_is_rule, [], []⟩
def d_are_rules : He.DefD := ⟨("are_rules", none), "are_rules", "are_rules", defArgs s_are_rules, defBody s_are_rules, defScope s_are_rules, [], []⟩
def d_need_rules : He.DefD := ⟨("need_rules", none), "need_rules", "need_rules", defArgs s_need_rules, defBody s_need_rules, defScope s_need_rules, [], []⟩
def d_are_roles : He.DefD := ⟨("are_roles", none), "are_roles", "are_roles", defArgs s_are_roles, defBody s_are_roles, defScope s_are_roles, [], []⟩
def d_is_for : He.DefD := ⟨("is_for", none), "is_for", "is_for", defArgs s_is_for, defBody s_is_for, defScope s_is_for, [], []⟩
def d_let_by : He.DefD := ⟨("let_by", none), "let_by", "let_by", defArgs s_let_by, defBody s_let_by, defScope s_let_by, [], []⟩
def d_is_person : He.DefD := ⟨("is_person", none), "is_person", "is_person", defArgs s_is_person, defBody s_is_person, defScope s_is_person, [], []⟩
def d_are_people : He.DefD := ⟨("are_people", none), "are_people", "are_people", defArgs s_are_people, defBody s_are_people, defScope s_are_people, [], []⟩
def d_nobody : He.DefD := ⟨("nobody", none), "nobody", "nobody", defArgs s_nobody, defBody s_nobody, defScope s_nobody, [], []⟩
def d__law_cell : He.DefD := ⟨("_law_cell", none), "_law_cell", "_law_cell", defArgs s__law_cell, defBody s__law_cell, defScope s__law_cell, [], []⟩
def d__law_pen : He.DefD := ⟨("_law_pen", none), "_law_pen", "_law_pen", defArgs s__law_pen, defBody s__law_pen, defScope s__law_pen, [], []⟩
def d__law_draw : He.DefD := ⟨("_law_draw", none), "_law_draw", "_law_draw", defArgs s__law_draw, defBody s__law_draw, defScope s__law_draw, [], []⟩
def d__law_pick : He.DefD := ⟨("_law_pick", none), "_law_pick", "_law_pick", defArgs s__law_pick, defBody s__law_pick, defScope s__law_pick, [], []⟩
def d__law_kinds : He.DefD := ⟨("_law_kinds", none), "_law_kinds", "_law_kinds", defArgs s__law_kinds, defBody s__law_kinds, defScope s__law_kinds, [], []⟩
def d__law_rules : He.DefD := ⟨("_law_rules", none), "_law_rules", "_law_rules", defArgs s__law_rules, defBody s__law_rules, defScope s__law_rules, [], []⟩
def d__law_let : He.DefD := ⟨("_law_let", none), "_law_let", "_law_let", defArgs s__law_let, defBody s__law_let, defScope s__law_let, [], []⟩
def d__law_people : He.DefD := ⟨("_law_people", none), "_law_people", "_law_people", defArgs s__law_people, defBody s__law_people, defScope s__law_people, [], []⟩
def d__law_told : He.DefD := ⟨("_law_told", none), "_law_told", "_law_told", defArgs s__law_told, defBody s__law_told, defScope s__law_told, [], []⟩
def d_law : He.DefD := ⟨("law", none), "law", "law", defArgs s_law, defBody s_law, defScope s_law, [], []⟩
def fn : List He.DefD := [d_is_made_of, d_is_name, d_is_word, d_is_shaped, d_are_unlike, d_are_rising, d_is_owner, d_is_who, d_is_rights_deed, d_is_rule, d_are_rules, d_need_rules, d_are_roles, d_is_for, d_let_by, d_is_person, d_are_people, d_nobody, d__law_cell, d__law_pen, d__law_draw, d__law_pick, d__law_kinds, d__law_rules, d__law_let, d__law_people, d__law_told, d_law]
def fa : List He.Fa := [.glo "is_made_of", .glo "is_name", .glo "is_word", .glo "is_shaped", .glo "are_unlike", .glo "are_rising", .glo "is_owner", .glo "is_who", .glo "is_rights_deed", .glo "is_rule", .glo "are_rules", .glo "need_rules", .glo "are_roles", .glo "is_for", .glo "let_by", .glo "is_person", .glo "are_people", .glo "nobody", .glo "_law_cell", .glo "_law_pen", .glo "_law_draw", .glo "_law_pick", .glo "_law_kinds", .glo "_law_rules", .glo "_law_let", .glo "_law_people", .glo "_law_told", .glo "law", .free "all", .free "any", .free "enumerate", .free "int", .free "isinstance", .free "len", .free "range", .free "repr", .free "set", .free "sorted", .free "str", .free "tuple", .free "zip", .str "ALL" "all", .glo "DEEDS", .str "FIGURES" "0123456789", .str "KNOWN" "known", .str "LETTERS" "abcdefghijklmnopqrstuvwxyz", .int "MOST_PEOPLE" 6, .int "MOST_RULES" 12, .int "MOST_SIGNS" 8, .str "OWN" "own", .str "ROLE" "role", .glo "NoPeople", .exc "NoPeople", .glo "NoRules", .exc "NoRules"]
def exB (K : PySem.W.Frag) : Bool := (DH.noD K "DEEDS" && He.tupB K "DEEDS" [(.str "see"), (.str "add"), (.str "change"), (.str "remove")]) && DH.lamB K lamNames && DH.lamIn K viewNames
abbrev R : PySem.W.OpenRow := PySem.W.OpenLaw.row PySem.Challenge.rw_doorhouse_k47_rights_that_nobody_has
abbrev hk : PySem.W.Hook := He.hookX 4 fa fn [] [] exB
def ob (s : PySem.W.SharedT) : He.AlX := He.obsX 4 fa fn [] [] exB (HandSHeadRun.getT s)
theorem ob_eq (s : PySem.W.SharedT) : ob s = hk.obs s.abs := He.obsX_eq (HandSHeadRun.getT_eq s)
def loose : List Str := (["DoorError", "NoRules", "NoPeople", "LETTERS", "FIGURES", "MOST_SIGNS", "DEEDS", "ALL", "KNOWN", "OWN", "ROLE", "MOST_RULES", "MOST_PEOPLE", "is_made_of", "is_name", "is_word", "is_shaped", "are_unlike", "are_rising", "is_owner"] : List Str) ++ (["is_who", "is_rights_deed", "is_rule", "are_rules", "need_rules", "are_roles", "is_for", "let_by", "is_person", "are_people", "nobody", "_law_cell", "_law_pen", "_law_draw", "_law_pick", "_law_kinds", "_law_rules", "_law_let", "_law_people", "_law_told"] : List Str)
def fn1 : List He.DefD := [d_is_made_of, d_is_name, d_is_word, d_is_shaped, d_are_unlike, d_are_rising, d_is_owner, d_is_who, d_is_rights_deed, d_is_rule, d_are_rules, d_need_rules, d_are_roles, d_is_for, d_let_by, d_is_person]
def fa1 : List He.Fa := [.glo "is_made_of", .glo "is_name", .glo "is_word", .glo "is_shaped", .glo "are_unlike", .glo "are_rising", .glo "is_owner", .glo "is_who", .glo "is_rights_deed", .glo "is_rule", .glo "are_rules", .glo "need_rules", .glo "are_roles", .glo "is_for", .glo "let_by", .glo "is_person", .glo "are_people", .glo "nobody", .glo "_law_cell", .glo "_law_pen", .glo "_law_draw", .glo "_law_pick", .glo "_law_kinds", .glo "_law_rules", .glo "_law_let", .glo "_law_people", .glo "_law_told", .glo "law"]
def fn2 : List He.DefD := [d_are_people, d_nobody, d__law_cell, d__law_pen, d__law_draw, d__law_pick, d__law_kinds, d__law_rules, d__law_let, d__law_people, d__law_told, d_law]
def fa2 : List He.Fa := [.free "all", .free "any", .free "enumerate", .free "int", .free "isinstance", .free "len", .free "range", .free "repr", .free "set", .free "sorted", .free "str", .free "tuple", .free "zip", .str "ALL" "all", .glo "DEEDS", .str "FIGURES" "0123456789", .str "KNOWN" "known", .str "LETTERS" "abcdefghijklmnopqrstuvwxyz", .int "MOST_PEOPLE" 6, .int "MOST_RULES" 12, .int "MOST_SIGNS" 8, .str "OWN" "own", .str "ROLE" "role", .glo "NoPeople", .exc "NoPeople", .glo "NoRules", .exc "NoRules"]
theorem fn_eq : fn = fn1 ++ fn2 := rfl
theorem fa_eq : fa = fa1 ++ fa2 := rfl
theorem r_look (w : World) : DH.LookP R 9000 w := by
  intro os
  kernel_rfl
theorem r_seen (w : World) : DH.SeenP R (PySem.W.view R.prog [45]) 9000 loose w := by
  intro os
  kernel_rfl
theorem r_obs1 (w : World) : DH.ObsP R 9000 4 fa1 fn1 exB w := by
  intro os
  kernel_rfl
theorem r_obs2 (w : World) : DH.ObsP R 9000 4 fa2 fn2 (fun _ => true) w := by
  intro os
  kernel_rfl
theorem run (w : World) : HandSHeadRun.RunEq R (PySem.W.view R.prog [45]) hk ob 9000 loose w := by
  have o : DH.ObsP R 9000 4 fa fn exB w := by
    rw [fa_eq, fn_eq]
    exact ((r_obs1 w).app (r_obs2 w))
  exact DH.run_parts (r_look w) (r_seen w) o
end Lw
/-! DL: data of any depth over the hand layer; a state and exception monad over the slots. -/
namespace DL
open PySem L2

/-! ### heaps -/
def Ex (H H' : Hp) : Prop := ∀ a o, H a = some o → H' a = some o
theorem Ex.refl (H : Hp) : Ex H H := fun _ _ h => h
theorem Ex.trans {H H1 H2 : Hp} (a : Ex H H1) (b : Ex H1 H2) : Ex H H2 := fun x o h => b x o (a x o h)
theorem Ex.new {H : Hp} {p : Addr} {o : HO} (h : H p = none) : Ex H (upd H p o) := fun a u e => by
  rw [upd_ne (ne_of_none e h)]; exact e
theorem Ex.up {S H : Hp} {p : Addr} {o : HO} (h : Ex S H) : Ex (upd S p o) (upd H p o) := fun a u e => by
  by_cases q : a = p
  · subst q; rw [upd_same] at e ⊢; exact e
  · rw [upd_ne q] at e ⊢; exact h a u e
theorem Ex.back {H H' : Hp} {p : Addr} (e : Ex H H') (h : H' p = none) : H p = none := by
  cases h1 : H p with
  | none => rfl
  | some o => rw [e p o h1] at h; cases h
theorem Ex.rd {H H' : Hp} {a : Addr} {u : HO} (e : Ex H H') (h : Rd H a u) : Rd H' a u := by
  rcases h with h | ⟨o, h⟩
  · exact Or.inl (e a _ h)
  · exact Or.inr ⟨o, e a _ h⟩
theorem Ex.l {K : PySem.W.Frag} {H H' : Hp} {a : Addr} {xs : List V} (e : Ex H H') (h : SqL K H a xs) : SqL K H' a xs := by
  rcases h with h | h
  · exact Or.inl (e.rd h)
  · exact Or.inr h
theorem Ex.t {K : PySem.W.Frag} {H H' : Hp} {a : Addr} {xs : List V} (e : Ex H H') (h : SqT K H a xs) : SqT K H' a xs := by
  rcases h with h | h
  · exact Or.inl (e.rd h)
  · exact Or.inr h
/-- a tuple: it never changes -/
def Tp (o : HO) : Prop := ∃ xs, o = .tup xs
/-- no address in both, but for tuples -/
def Dj (S F : Hp) : Prop := ∀ a o, S a = some o → F a = none ∨ (F a = some o ∧ Tp o)
theorem Dj.none {S F : Hp} (h : Dj S F) {a : Addr} {o : HO} (e : F a = some o) (n : ¬ Tp o) : S a = none := by
  cases q : S a with
  | none => rfl
  | some u =>
    rcases h a u q with z | ⟨z, t⟩
    · rw [z] at e; cases e
    · rw [z] at e; cases e; exact absurd t n
/-! ### tables of code objects -/
/-- no table -/
def NT (o : HO) : Prop := match o with
  | .tbl _ => False
  | .ext _ => False
  | _ => True
theorem NT.ne {o : HO} (h : NT o) (ps : Array Value) : o ≠ .tbl ps := fun z => by subst z; exact h
theorem Tp.nt {o : HO} (h : Tp o) : NT o := by obtain ⟨xs, rfl⟩ := h; exact trivial
def NoTb (S : Hp) : Prop := ∀ a ps, S a ≠ some (.tbl ps)
theorem NoTb.upd {S : Hp} {p : Addr} {o : HO} (h : NoTb S) (ho : NT o) : NoTb (L2.upd S p o) := fun a ps e => by
  by_cases q : a = p
  · subst q; rw [upd_same] at e; exact ho.ne ps (Option.some.inj e)
  · rw [upd_ne q] at e; exact h a ps e
theorem NoTb.none : NoTb (fun _ => none) := fun _ _ h => nomatch h
/-- defs of the laws that hold a lambda -/
def lamDefs : List Str := ["law", "_law_right", "_law_begins_right", "_law_words", "_law_can", "_law_seen", "_law_lets_right", "_law_asked"]
/-- the code object's table -/
def tabAt (K : PySem.W.Frag) (cd : Value) : Option Addr := match cd with
  | .ref c => match K.lookup c with
    | some ⟨.type "code", _, .fields vs, _⟩ => match vs.getD 11 .none, vs.getD 18 .none, vs.getD 7 .none, vs.getD 9 .none, vs.getD 10 .none with
      | .ref P, .str _ _, .int _ _, .bool _, .int _ _ => if c ≠ P ∧ K.lookup P = none then some P else none
      | _, _, _, _, _ => none
    | _ => none
  | _ => none
theorem tabAt_none {K : PySem.W.Frag} {cd : Value} {P : Addr} (h : tabAt K cd = some P) : K.lookup P = none := by
  unfold tabAt at h
  split at h
  · split at h
    · split at h
      · split at h
        · rename_i q; cases h; exact q.2
        · cases h
      · cases h
    · cases h
  · cases h
theorem getD_some {vs : Array Value} {i : Nat} {v : Value} (h : vs.getD i .none = v) (n : v ≠ .none) : vs[i]? = some v := by
  rw [Array.getD_eq_getD_getElem?] at h
  cases q : vs[i]? with
  | none => rw [q] at h; exact (n h.symm).elim
  | some u => rw [q] at h; rw [← h]; rfl
theorem tabAt_code {K : PySem.W.Frag} {c P : Addr} {h : Heap} (e : tabAt K (.ref c) = some P) (X : K.In h) : PySem.W.CodeHd h c P := by
  unfold tabAt at e
  dsimp only at e
  split at e
  · rename_i dd vs sl hl
    split at e
    · rename_i h1 h2 h3 h4 h5
      split at e
      · rename_i q
        cases e
        exact ⟨_, vs, _, _, _, _, _, _, _, X _ _ hl, rfl, rfl, getD_some h1 (fun z => nomatch z), h1, h2, h3, h4, h5, q.1⟩
      · cases e
    · cases e
  · cases e
/-- these defs' tables, each with the name of a lambda that it may hold -/
def tbOf (K : PySem.W.Frag) (x : Str) : Option (Addr × Str) := match PySem.W.nsIn K mainGlobals x with
  | some (some (.ref a)) => match K.lookup a with
    | some o => match o.data with
      | .func fd => (tabAt K fd.code).map fun P => (P, x ++ ".<locals>." ++ "<lambda>")
      | _ => none
    | none => none
  | _ => none
def tbK (K : PySem.W.Frag) : List (Addr × Str) := lamDefs.filterMap (tbOf K)
theorem tbK_mem {K : PySem.W.Frag} {p : Addr × Str} (h : p ∈ tbK K) : ∃ x a o fd, x ∈ lamDefs ∧ PySem.W.nsIn K mainGlobals x = some (some (.ref a)) ∧ K.lookup a = some o ∧ o.data = .func fd ∧ tabAt K fd.code = some p.1 ∧ p.2 = x ++ ".<locals>." ++ "<lambda>" := by
  obtain ⟨x, hx, e⟩ := List.mem_filterMap.mp h
  unfold tbOf at e
  split at e
  · rename_i a ha
    split at e
    · rename_i o ho
      split at e
      · rename_i fd hf
        obtain ⟨P, h1, rfl⟩ := Option.map_eq_some_iff.mp e
        exact ⟨x, a, o, fd, hx, ha, ho, hf, h1, rfl⟩
      · cases e
    · cases e
  · cases e
structure TbH (K : PySem.W.Frag) (H : Hp) : Prop where
  ok : LamX.Tabs (tbK K) H
  only : ∀ a ps, H a = some (.tbl ps) → a ∈ (tbK K).map Prod.fst
theorem TbH.ext {K : PySem.W.Frag} {H H' : Hp} (t : TbH K H) (e : Ex H H') (n : ∀ a ps, H' a = some (.tbl ps) → H a = none → False) : TbH K H' where
  ok := t.ok.ext e
  only := fun a ps h => by
    cases q : H a with
    | none => exact (n a ps h q).elim
    | some o =>
      have := e a o q
      rw [h] at this; cases this
      exact t.only a ps q
theorem TbH.new {K : PySem.W.Frag} {H : Hp} {p : Addr} {o : HO} (t : TbH K H) (hp : H p = none) (ho : NT o) : TbH K (upd H p o) := t.ext (Ex.new hp) fun a ps h n => by
  by_cases q : a = p
  · subst q; rw [upd_same] at h; exact ho.ne ps (Option.some.inj h)
  · rw [upd_ne q, n] at h; cases h
theorem TbH.write {K : PySem.W.Frag} {H : Hp} {p : Addr} {o o' : HO} (t : TbH K H) (hp : H p = some o) (ho : NT o) (ho' : NT o') : TbH K (upd H p o') where
  ok := fun q hq => by
    obtain ⟨ps, h1, h2, h3⟩ := t.ok q hq
    have n1 : q.1 ≠ p := fun z => by rw [z, hp] at h1; exact ho.ne ps (Option.some.inj h1)
    refine ⟨ps, by rw [upd_ne n1]; exact h1, h2, fun pos cv hc => ?_⟩
    obtain ⟨c, e1, e2⟩ := h3 pos cv hc
    refine ⟨c, e1, ?_⟩
    rw [upd_ne]
    · exact e2
    · intro z; rw [z, hp] at e2; cases e2; exact ho
  only := fun a ps h => by
    by_cases q : a = p
    · subst q; rw [upd_same] at h; exact (ho'.ne ps (Option.some.inj h)).elim
    · rw [upd_ne q] at h; exact t.only a ps h
/-- all but tables stay -/
abbrev ExN (H H' : Hp) : Prop := ∀ b o, H b = some o → (∀ ps, o ≠ .tbl ps) → H' b = some o
theorem Ex.n {H H' : Hp} (h : Ex H H') : ExN H H' := fun b o e _ => h b o e
theorem Ex.transN {F H H' : Hp} (h : Ex F H) (n : NoTb F) (g : ExN H H') : Ex F H' := fun a o e => g a o (h a o e) fun ps z => n a ps (by rw [e, z])
theorem ExN.back {H H' : Hp} {p : Addr} (e : ExN H H') (h : H' p = none) (n : ∀ ps, H p ≠ some (.tbl ps)) : H p = none := by
  cases h1 : H p with
  | none => rfl
  | some o =>
    rw [e p o h1 fun ps z => n ps (by rw [h1, z])] at h; cases h
/-- a world: the stable heap S, the foreign one F -/
structure Wd (K : PySem.W.Frag) (F S H : Hp) : Prop where
  sh : Ex S H
  fh : Ex F H
  dj : Dj S F
  tb : TbH K H
  ns : NoTb S
  nf : NoTb F
/-- a pure step: S and H grow, S by what was free in H alone, or by tuples -/
structure Grow (K : PySem.W.Frag) (S H S' H' : Hp) : Prop where
  ss : Ex S S'
  sh : Ex S' H'
  hh : ExN H H'
  tb : TbH K H → TbH K H'
  ns : NoTb S → NoTb S'
  tk : ∀ a ps, H a = some (.tbl ps) → ∃ ps', H' a = some (.tbl ps')
  nw : ∀ a o, S a = none → S' a = some o → H a = none ∨ (H a = some o ∧ Tp o)
theorem Grow.refl {K : PySem.W.Frag} {S H : Hp} (h : Ex S H) : Grow K S H S H := ⟨Ex.refl S, h, (Ex.refl H).n, id, id, fun a ps e => ⟨ps, e⟩, fun a o e e' => by rw [e] at e'; cases e'⟩
theorem Grow.old {K : PySem.W.Frag} {S H S' H' : Hp} (g : Grow K S H S' H') {x : Addr} {u : HO} (e : H x = some u) : H' x = some u ∨ ∃ ps, H' x = some (.tbl ps) := by
  by_cases ht : ∃ ps, u = .tbl ps
  · obtain ⟨ps, rfl⟩ := ht
    exact .inr (g.tk x ps e)
  · exact .inl (g.hh x u e fun ps w => ht ⟨ps, w⟩)
theorem Grow.trans {K : PySem.W.Frag} {S H S1 H1 S2 H2 : Hp} (a : Grow K S H S1 H1) (b : Grow K S1 H1 S2 H2) : Grow K S H S2 H2 :=
  ⟨a.ss.trans b.ss, b.sh, fun x o e n => b.hh x o (a.hh x o e n) n, fun t => b.tb (a.tb t), fun t => b.ns (a.ns t), fun x ps e => by
    obtain ⟨p1, e1⟩ := a.tk x ps e
    exact b.tk x p1 e1, fun x o e e' => by
    cases q : S1 x with
    | none =>
      cases y : H x with
      | none => exact .inl rfl
      | some u =>
        rcases b.nw x o q e' with z | ⟨z, t⟩
        · rcases a.old y with w | ⟨ps, w⟩ <;> rw [z] at w <;> cases w
        · rcases a.old y with w | ⟨ps, w⟩
          · rw [z] at w; cases w; exact .inr ⟨rfl, t⟩
          · rw [z] at w; cases w; exact t.nt.elim
    | some u =>
      have := b.ss x u q
      rw [e'] at this; cases this
      exact a.nw x o e q⟩
theorem Grow.new {K : PySem.W.Frag} {S H : Hp} {p : Addr} {o : HO} (h : Ex S H) (hp : H p = none) (ho : NT o := by exact trivial) : Grow K S H (upd S p o) (upd H p o) :=
  ⟨Ex.new (h.back hp), h.up, (Ex.new hp).n, fun t => t.new hp ho, fun t => t.upd ho, fun a ps e => ⟨ps, Ex.new hp a _ e⟩, fun a u e e' => by
    by_cases q : a = p
    · subst q; exact .inl hp
    · rw [upd_ne q, e] at e'; cases e'⟩
/-- a tuple that lies there is taken for data -/
theorem Grow.adopt {K : PySem.W.Frag} {S H : Hp} {p : Addr} {xs : List V} (h : Ex S H) (hp : H p = some (.tup xs)) : Grow K S H (upd S p (.tup xs)) H := by
  refine ⟨fun a o e => ?_, fun a o e => ?_, (Ex.refl H).n, id, fun t => t.upd trivial, fun a ps e => ⟨ps, e⟩, fun a u e e' => ?_⟩
  · by_cases q : a = p
    · subst q
      have := h a o e
      rw [hp] at this; cases this
      exact upd_same
    · rw [upd_ne q]; exact e
  · by_cases q : a = p
    · subst q; rw [upd_same] at e; cases e; exact hp
    · rw [upd_ne q] at e; exact h a o e
  · by_cases q : a = p
    · subst q; rw [upd_same] at e'; cases e'; exact .inr ⟨hp, _, rfl⟩
    · rw [upd_ne q, e] at e'; cases e'

/-! ### data in a heap -/
/-- a text that is not too long, of code points -/
def TxOk (x : Str) : Prop := x.length ≤ sizeLine ∧ PyData.strOk x = true
instance (x : Str) : Decidable (TxOk x) := inferInstanceAs (Decidable (_ ∧ _))
/-- a tuple whose object has no dict -/
def PlT (K : PySem.W.Frag) (S : Hp) (a : Addr) (xs : List V) : Prop :=
  (∃ ob : Obj, S a = some (.frz ob (.tup xs)) ∧ ob.dict = none) ∨
    ∃ (o : Obj) (its : Array Value) (n : Nat), K.lookup a = some o ∧ o.cls = .type "tuple" ∧ o.data = .seq its n ∧ its.size ≤ sizeLine ∧ Vals xs its.toList ∧ o.dict = none
theorem PlT.sq {K : PySem.W.Frag} {S : Hp} {a : Addr} {xs : List V} (h : PlT K S a xs) : SqT K S a xs := by
  rcases h with ⟨ob, h, _⟩ | ⟨o, its, n, h1, h2, h3, h4, h5, _⟩
  · exact .inl (.inr ⟨ob, h⟩)
  · exact .inr ⟨o, its, n, h1, h2, h3, h4, h5⟩
theorem Ex.p {K : PySem.W.Frag} {H H' : Hp} {a : Addr} {xs : List V} (e : Ex H H') (h : PlT K H a xs) : PlT K H' a xs := by
  rcases h with ⟨ob, h, g⟩ | h
  · exact .inl ⟨ob, e _ _ h, g⟩
  · exact .inr h
def kD : Key → PyData
  | .inl i => .int i
  | .inr x => .str x
mutual
inductive Rp (K : PySem.W.Frag) (S : Hp) : V → PyData → Prop
  | non : Rp K S .non .none
  | bl (b : Bool) : Rp K S (.bl b) (.bool b)
  | int (i : Int) : Rp K S (.int i) (.int i)
  | str (x : Str) : TxOk x → Rp K S (.str x) (.str x)
  | lst {a : Addr} {xs : List V} {ds : List PyData} : S a = some (.lst xs) → RpAll K S xs ds → Rp K S (.ref a) (.list ds)
  | tup {a : Addr} {xs : List V} {ds : List PyData} : PlT K S a xs → RpAll K S xs ds → Rp K S (.ref a) (.tuple ds)
  | dct {a : Addr} {kvs : List (Key × V)} {ds : List (PyData × PyData)} : Rd S a (.dK kvs) → RpKv K S kvs ds → Rp K S (.ref a) (.dict ds)
inductive RpAll (K : PySem.W.Frag) (S : Hp) : List V → List PyData → Prop
  | nil : RpAll K S [] []
  | cons {v : V} {vs : List V} {d : PyData} {ds : List PyData} : Rp K S v d → RpAll K S vs ds → RpAll K S (v :: vs) (d :: ds)
inductive RpKv (K : PySem.W.Frag) (S : Hp) : List (Key × V) → List (PyData × PyData) → Prop
  | nil : RpKv K S [] []
  | cons {k : Key} {v : V} {vs : List (Key × V)} {d : PyData} {ds : List (PyData × PyData)} : Rp K S v d → RpKv K S vs ds → RpKv K S ((k, v) :: vs) ((kD k, d) :: ds)
end
section
variable {K : PySem.W.Frag} {S S' : Hp}
mutual
theorem Rp.mono (e : Ex S S') : ∀ {v : V} {d : PyData}, Rp K S v d → Rp K S' v d
  | _, _, .non => .non
  | _, _, .bl b => .bl b
  | _, _, .int i => .int i
  | _, _, .str x h => .str x h
  | _, _, .lst h r => .lst (e _ _ h) (RpAll.mono e r)
  | _, _, .tup h r => .tup (e.p h) (RpAll.mono e r)
  | _, _, .dct h r => .dct (e.rd h) (RpKv.mono e r)
theorem RpAll.mono (e : Ex S S') : ∀ {vs : List V} {ds : List PyData}, RpAll K S vs ds → RpAll K S' vs ds
  | _, _, .nil => .nil
  | _, _, .cons h r => .cons (Rp.mono e h) (RpAll.mono e r)
theorem RpKv.mono (e : Ex S S') : ∀ {vs : List (Key × V)} {ds : List (PyData × PyData)}, RpKv K S vs ds → RpKv K S' vs ds
  | _, _, .nil => .nil
  | _, _, .cons h r => .cons (Rp.mono e h) (RpKv.mono e r)
end
theorem RpAll.length : ∀ {vs : List V} {ds : List PyData}, RpAll K S vs ds → vs.length = ds.length
  | _, _, .nil => rfl
  | _, _, .cons _ r => by simp [RpAll.length r]
theorem RpAll.append : ∀ {vs ws : List V} {ds es : List PyData}, RpAll K S vs ds → RpAll K S ws es → RpAll K S (vs ++ ws) (ds ++ es)
  | _, _, _, _, .nil, h => h
  | _, _, _, _, .cons h r, q => .cons h (RpAll.append r q)
theorem RpAll.get : ∀ {vs : List V} {ds : List PyData} {i : Nat} {v : V}, RpAll K S vs ds → vs[i]? = some v → ∃ d, ds[i]? = some d ∧ Rp K S v d
  | _, _, _, _, .nil, h => by simp at h
  | _, _, 0, _, .cons h r, q => by simp at q; subst q; exact ⟨_, rfl, h⟩
  | _, _, i + 1, _, .cons h r, q => by
    obtain ⟨d, h1, h2⟩ := RpAll.get (i := i) r (by simpa using q)
    exact ⟨d, by simpa using h1, h2⟩
theorem RpAll.get' : ∀ {vs : List V} {ds : List PyData} {i : Nat} {d : PyData}, RpAll K S vs ds → ds[i]? = some d → ∃ v, vs[i]? = some v ∧ Rp K S v d
  | _, _, _, _, .nil, h => by simp at h
  | _, _, 0, _, .cons h r, q => by simp at q; subst q; exact ⟨_, rfl, h⟩
  | _, _, i + 1, _, .cons h r, q => by
    obtain ⟨d, h1, h2⟩ := RpAll.get' (i := i) r (by simpa using q)
    exact ⟨d, by simpa using h1, h2⟩
theorem RpAll.set : ∀ {vs : List V} {ds : List PyData} {v : V} {d : PyData} (i : Nat), RpAll K S vs ds → Rp K S v d → RpAll K S (vs.set i v) (ds.set i d)
  | _, _, _, _, _, .nil, _ => .nil
  | _, _, _, _, 0, .cons h r, q => .cons q r
  | _, _, _, _, i + 1, .cons h r, q => .cons h (RpAll.set i r q)
theorem RpAll.take : ∀ {vs : List V} {ds : List PyData} (n : Nat), RpAll K S vs ds → RpAll K S (vs.take n) (ds.take n)
  | _, _, 0, _ => .nil
  | _, _, _ + 1, .nil => .nil
  | _, _, n + 1, .cons h r => .cons h (RpAll.take n r)
theorem RpAll.drop : ∀ {vs : List V} {ds : List PyData} (n : Nat), RpAll K S vs ds → RpAll K S (vs.drop n) (ds.drop n)
  | _, _, 0, h => h
  | _, _, _ + 1, .nil => .nil
  | _, _, n + 1, .cons h r => RpAll.drop n r
theorem RpAll.one {v : V} {d : PyData} (h : Rp K S v d) : RpAll K S [v] [d] := .cons h .nil
end

/-! ### slots, the monad -/
/-- a thing that is changed in place: a list, a dict of tuple keys -/
inductive Mt where
  | lst (ds : List PyData)
  | dT (kvs : List (List Key × PyData))
/-- an exception: its class by name, its field -/
structure Exn where
  name : Str
  field : Option PyData
inductive Sv where
  | dat (d : PyData)
  | mt (own : Bool) (m : Mt)
  | raw (v : V)
  | frz (ds : List PyData)
  | wk (ds : List PyData)
  | fn (x : Str)
  | exc (a : Addr) (x : Exn)
abbrev Sv.lis (own : Bool) (ds : List PyData) : Sv := .mt own (.lst ds)
abbrev Sv.dic (kvs : List (List Key × PyData)) : Sv := .mt false (.dT kvs)
abbrev Sl := List (Option Sv)
inductive Out (α : Type) where
  | ok (a : α) (e : Sl)
  | exc (x : Exn) (e : Sl)
  | bad
def M (α : Type) : Type := Sl → Out α
def M.pure {α : Type} (a : α) : M α := fun e => .ok a e
def Out.then {α β : Type} (o : Out α) (k : α → M β) : Out β := match o with
  | .ok a e => k a e
  | .exc x e => .exc x e
  | .bad => .bad
def M.bind {α β : Type} (f : M α) (k : α → M β) : M β := fun e => (f e).then k
instance : Monad M where
  pure := M.pure
  bind := M.bind
def M.lift {α : Type} (o : Option α) : M α := fun e => match o with
  | some a => .ok a e
  | none => .bad
def M.bad {α : Type} : M α := fun _ => .bad
def M.raise {α : Type} (x : Exn) : M α := fun e => .exc x e
@[simp] theorem then_ok {α β : Type} (a : α) (e : Sl) (k : α → M β) : (Out.ok a e).then k = k a e := rfl
@[simp] theorem then_exc {α β : Type} (x : Exn) (e : Sl) (k : α → M β) : (Out.exc x e : Out α).then k = .exc x e := rfl
@[simp] theorem then_bad {α β : Type} (k : α → M β) : (Out.bad : Out α).then k = .bad := rfl
theorem bind_run {α β : Type} (f : M α) (k : α → M β) (e : Sl) : (f >>= k) e = (f e).then k := rfl
theorem pure_run {α : Type} (a : α) (e : Sl) : (pure a : M α) e = .ok a e := rfl

inductive RpKT (K : PySem.W.Frag) (S : Hp) : List (List Key × V) → List (List Key × PyData) → Prop
  | nil : RpKT K S [] []
  | cons {k : List Key} {v : V} {d : PyData} {ws : List (List Key × V)} {kvs : List (List Key × PyData)} : (∀ x, Sum.inr x ∈ k → TxOk x) → Rp K S v d → RpKT K S ws kvs → RpKT K S ((k, v) :: ws) ((k, d) :: kvs)
theorem RpKT.mono {K : PySem.W.Frag} {S S' : Hp} (e : Ex S S') : ∀ {ws : List (List Key × V)} {kvs : List (List Key × PyData)}, RpKT K S ws kvs → RpKT K S' ws kvs
  | _, _, .nil => .nil
  | _, _, .cons g h r => .cons g (h.mono e) (RpKT.mono e r)
def MtOk (K : PySem.W.Frag) (S : Hp) : HO → Mt → Prop
  | .lst xs, .lst ds => RpAll K S xs ds
  | .dT ws, .dT kvs => RpKT K S ws kvs
  | _, _ => False
theorem MtOk.mono {K : PySem.W.Frag} {S S' : Hp} {o : HO} {m : Mt} (h : MtOk K S o m) (e : Ex S S') : MtOk K S' o m := by
  cases m with
  | lst ds => cases o <;> first | exact RpAll.mono e h | exact h.elim
  | dT kvs => cases o <;> first | exact RpKT.mono e h | exact h.elim
theorem MtOk.ntp {K : PySem.W.Frag} {S : Hp} {o : HO} {m : Mt} (h : MtOk K S o m) : ¬ Tp o := by
  rintro ⟨xs, rfl⟩
  cases m <;> exact h
theorem MtOk.nt {K : PySem.W.Frag} {S : Hp} {o : HO} {m : Mt} (h : MtOk K S o m) : NT o := by
  cases m <;> cases o <;> first | exact trivial | exact h.elim
theorem MtOk.lst_inv {K : PySem.W.Frag} {S : Hp} {o : HO} {ds : List PyData} (h : MtOk K S o (.lst ds)) : ∃ xs, o = .lst xs ∧ RpAll K S xs ds := by
  cases o <;> first | exact ⟨_, rfl, h⟩ | exact h.elim
theorem MtOk.dT_inv {K : PySem.W.Frag} {S : Hp} {o : HO} {kvs : List (List Key × PyData)} (h : MtOk K S o (.dT kvs)) : ∃ ws, o = .dT ws ∧ RpKT K S ws kvs := by
  cases o <;> first | exact ⟨_, rfl, h⟩ | exact h.elim
section
variable (K : PySem.W.Frag) (mg : Str → Option Value) (F : Hp) (P : List (Option Addr)) (S H : Hp) (σ : St)
def SvOk (i : Nat) : Sv → Prop
  | .dat d => ∃ v, σ[i]? = some (some v) ∧ Rp K S v d
  | .mt b m => ∃ p o, σ[i]? = some (some (.ref p)) ∧ H p = some o ∧ S p = none ∧ F p = none ∧ MtOk K S o m ∧ (b = true → P[i]? = some (some p))
  | .raw v => σ[i]? = some (some v)
  | .fn x => ∃ a, σ[i]? = some (some (.ref a)) ∧ mg x = some (.ref a)
  | .exc a _ => σ[i]? = some (some (.ref a))
  | .frz ds => ∃ a xs, σ[i]? = some (some (.ref a)) ∧ SqL K S a xs ∧ RpAll K S xs ds
  | .wk ds => ∃ a xs, σ[i]? = some (some (.ref a)) ∧ SqT K S a xs ∧ RpAll K S xs ds
structure RelE (env : Sl) : Prop extends Wd K F S H where
  len : σ.length = env.length
  ats : ∀ (i : Nat) (s : Sv), env[i]? = some (some s) → SvOk K mg F P S H σ i s
  uq : ∀ (i j : Nat) (p : Addr) (bi : Bool) (di : Mt) (bj : Bool) (dj : Mt), env[i]? = some (some (.mt bi di)) → env[j]? = some (some (.mt bj dj)) → σ[i]? = some (some (.ref p)) → σ[j]? = some (some (.ref p)) → i = j
end
section
variable {K : PySem.W.Frag} {mg : Str → Option Value} {F : Hp} {P : List (Option Addr)} {S H S' H' : Hp} {σ : St} {env : Sl}
theorem RelE.grow (r : RelE K mg F P S H σ env) (g : Grow K S H S' H') : RelE K mg F P S' H' σ env where
  sh := g.sh
  fh := r.fh.transN r.nf g.hh
  tb := g.tb r.tb
  ns := g.ns r.ns
  nf := r.nf
  dj := fun a o e => by
    cases q : S a with
    | some u =>
      have := g.ss a u q
      rw [e] at this; cases this
      exact r.dj a o q
    | none =>
      rcases g.nw a o q e with z | ⟨z, t⟩
      · exact .inl (r.fh.back z)
      · cases y : F a with
        | none => exact .inl rfl
        | some u =>
          have := r.fh a u y
          rw [z] at this; cases this
          exact .inr ⟨rfl, t⟩
  len := r.len
  ats := fun i s e => by
    have h := r.ats i s e
    cases s with
    | dat d => obtain ⟨v, h1, h2⟩ := h; exact ⟨v, h1, h2.mono g.ss⟩
    | raw v => exact h
    | fn x => exact h
    | exc a x => exact h
    | frz ds => obtain ⟨a, xs, h1, h2, h3⟩ := h; exact ⟨a, xs, h1, g.ss.l h2, h3.mono g.ss⟩
    | wk ds => obtain ⟨a, xs, h1, h2, h3⟩ := h; exact ⟨a, xs, h1, g.ss.t h2, h3.mono g.ss⟩
    | mt b m =>
      obtain ⟨p, xs, h1, h2, h3, h4, h5, h6⟩ := h
      refine ⟨p, xs, h1, g.hh _ _ h2 h5.nt.ne, ?_, h4, h5.mono g.ss, h6⟩
      cases q : S' p with
      | none => rfl
      | some u =>
        rcases g.nw p u h3 q with z | ⟨z, t⟩
        · rw [z] at h2; cases h2
        · rw [z] at h2; cases h2; exact absurd t h5.ntp
  uq := r.uq
theorem RelE.lis {i : Nat} {b : Bool} {ds : List PyData} (r : RelE K mg F P S H σ env) (e : env[i]? = some (some (.lis b ds))) : ∃ p xs, σ[i]? = some (some (.ref p)) ∧ H p = some (.lst xs) ∧ S p = none ∧ F p = none ∧ RpAll K S xs ds ∧ (b = true → P[i]? = some (some p)) := by
  obtain ⟨p, o, h1, h2, h3, h4, h5, h6⟩ := r.ats i _ e
  obtain ⟨xs, rfl, h7⟩ := h5.lst_inv
  exact ⟨p, xs, h1, h2, h3, h4, h7, h6⟩
theorem RelE.dic {i : Nat} {kvs : List (List Key × PyData)} (r : RelE K mg F P S H σ env) (e : env[i]? = some (some (.dic kvs))) : ∃ p ws, σ[i]? = some (some (.ref p)) ∧ H p = some (.dT ws) ∧ S p = none ∧ F p = none ∧ RpKT K S ws kvs := by
  obtain ⟨p, o, h1, h2, h3, h4, h5, h6⟩ := r.ats i _ e
  obtain ⟨xs, rfl, h7⟩ := h5.dT_inv
  exact ⟨p, xs, h1, h2, h3, h4, h7⟩
theorem RelE.dat {i : Nat} {d : PyData} (r : RelE K mg F P S H σ env) (e : env[i]? = some (some (.dat d))) : ∃ v, σ[i]? = some (some v) ∧ Rp K S v d := r.ats i _ e
/-- a slot stored -/
theorem RelE.setD {i : Nat} {v : V} {d : PyData} (r : RelE K mg F P S H σ env) (h : Rp K S v d) : RelE K mg F P S H (σ.set i (some v)) (env.set i (some (.dat d))) where
  toWd := r.toWd
  len := by simp [r.len]
  ats := fun j s e => by
    by_cases q : i = j
    · subst q
      by_cases hl : i < env.length
      · rw [List.getElem?_set_self hl] at e
        cases e
        exact ⟨v, by rw [List.getElem?_set_self (by rw [r.len]; exact hl)], h⟩
      · rw [List.getElem?_eq_none (by simpa using hl)] at e; cases e
    · rw [List.getElem?_set_ne q] at e
      have h := r.ats j s e
      cases s with
      | dat d => obtain ⟨v, h1, h2⟩ := h; exact ⟨v, by rw [List.getElem?_set_ne q]; exact h1, h2⟩
      | raw v =>
        show (σ.set i _)[j]? = _
        rw [List.getElem?_set_ne q]; exact h
      | fn x => obtain ⟨a, h1, hr⟩ := h; exact ⟨a, by rw [List.getElem?_set_ne q]; exact h1, hr⟩
      | exc a x =>
        show (σ.set i _)[j]? = _
        rw [List.getElem?_set_ne q]; exact h
      | frz ds => obtain ⟨a, xs, h1, hr⟩ := h; exact ⟨a, xs, by rw [List.getElem?_set_ne q]; exact h1, hr⟩
      | wk ds => obtain ⟨a, xs, h1, hr⟩ := h; exact ⟨a, xs, by rw [List.getElem?_set_ne q]; exact h1, hr⟩
      | mt b m => obtain ⟨p, xs, h1, hr⟩ := h; exact ⟨p, xs, by rw [List.getElem?_set_ne q]; exact h1, hr⟩
  uq := fun j k p bi di bj dj e1 e2 s1 s2 => by
    have aux : ∀ {j : Nat} {b : Bool} {ds : Mt}, (env.set i (some (Sv.dat d)))[j]? = some (some (.mt b ds)) → i ≠ j := fun {j b ds} e q => by
      subst q
      by_cases hl : i < env.length
      · rw [List.getElem?_set_self hl] at e; cases e
      · rw [List.getElem?_eq_none (by simpa using hl)] at e; cases e
    have n1 := aux e1
    have n2 := aux e2
    rw [List.getElem?_set_ne n1] at e1 s1
    rw [List.getElem?_set_ne n2] at e2 s2
    exact r.uq j k p bi di bj dj e1 e2 s1 s2
theorem RelE.setS {i : Nat} {v : V} {sv : Sv} (r : RelE K mg F P S H σ env) (hn : ∀ b m, sv ≠ .mt b m) (h : i < env.length → SvOk K mg F P S H (σ.set i (some v)) i sv) : RelE K mg F P S H (σ.set i (some v)) (env.set i (some sv)) where
  toWd := r.toWd
  len := by simp [r.len]
  ats := fun j s e => by
    by_cases q : i = j
    · subst q
      by_cases hl : i < env.length
      · rw [List.getElem?_set_self hl] at e
        cases e
        exact h hl
      · rw [List.getElem?_eq_none (by simpa using hl)] at e; cases e
    · rw [List.getElem?_set_ne q] at e
      have h := r.ats j s e
      cases s with
      | dat d => obtain ⟨v, h1, h2⟩ := h; exact ⟨v, by rw [List.getElem?_set_ne q]; exact h1, h2⟩
      | raw v =>
        show (σ.set i _)[j]? = _
        rw [List.getElem?_set_ne q]; exact h
      | fn x => obtain ⟨a, h1, hr⟩ := h; exact ⟨a, by rw [List.getElem?_set_ne q]; exact h1, hr⟩
      | exc a x =>
        show (σ.set i _)[j]? = _
        rw [List.getElem?_set_ne q]; exact h
      | frz ds => obtain ⟨a, xs, h1, hr⟩ := h; exact ⟨a, xs, by rw [List.getElem?_set_ne q]; exact h1, hr⟩
      | wk ds => obtain ⟨a, xs, h1, hr⟩ := h; exact ⟨a, xs, by rw [List.getElem?_set_ne q]; exact h1, hr⟩
      | mt b m => obtain ⟨p, xs, h1, hr⟩ := h; exact ⟨p, xs, by rw [List.getElem?_set_ne q]; exact h1, hr⟩
  uq := fun j k p bi di bj dj e1 e2 s1 s2 => by
    have aux : ∀ {j : Nat} {b : Bool} {ds : Mt}, (env.set i (some sv))[j]? = some (some (.mt b ds)) → i ≠ j := fun {j b ds} e q => by
      subst q
      by_cases hl : i < env.length
      · rw [List.getElem?_set_self hl] at e
        exact hn b ds (Option.some.inj (Option.some.inj e))
      · rw [List.getElem?_eq_none (by simpa using hl)] at e; cases e
    have n1 := aux e1
    have n2 := aux e2
    rw [List.getElem?_set_ne n1] at e1 s1
    rw [List.getElem?_set_ne n2] at e2 s2
    exact r.uq j k p bi di bj dj e1 e2 s1 s2
theorem RelE.setW {i : Nat} {a : Addr} {xs : List V} {ds : List PyData} (r : RelE K mg F P S H σ env) (h : SqT K S a xs) (rp : RpAll K S xs ds) : RelE K mg F P S H (σ.set i (some (.ref a))) (env.set i (some (.wk ds))) :=
  r.setS (fun _ _ z => nomatch z) fun hl => ⟨a, xs, by rw [List.getElem?_set_self (by rw [r.len]; exact hl)], h, rp⟩
/-- a new list is kept by a slot as its own -/
theorem RelE.setMt {i : Nat} {p : Addr} {o : HO} {m : Mt} (r : RelE K mg F P S H σ env) (hp : H p = none) (h : MtOk K S o m) :
    RelE K mg F P S (upd H p o) (σ.set i (some (.ref p))) (env.set i (some (.mt false m))) where
  sh := r.sh.trans (Ex.new hp)
  fh := r.fh.trans (Ex.new hp)
  dj := r.dj
  tb := r.tb.new hp h.nt
  ns := r.ns
  nf := r.nf
  len := by simp [r.len]
  ats := fun j s e => by
    by_cases q : i = j
    · subst q
      by_cases hl : i < env.length
      · rw [List.getElem?_set_self hl] at e
        cases e
        exact ⟨p, o, by rw [List.getElem?_set_self (by rw [r.len]; exact hl)], upd_same, r.sh.back hp, r.fh.back hp, h, fun z => nomatch z⟩
      · rw [List.getElem?_eq_none (by simpa using hl)] at e; cases e
    · rw [List.getElem?_set_ne q] at e
      have h := r.ats j s e
      cases s with
      | dat d => obtain ⟨v, h1, h2⟩ := h; exact ⟨v, by rw [List.getElem?_set_ne q]; exact h1, h2⟩
      | raw v =>
        show (σ.set i _)[j]? = _
        rw [List.getElem?_set_ne q]; exact h
      | fn x => obtain ⟨a, h1, hr⟩ := h; exact ⟨a, by rw [List.getElem?_set_ne q]; exact h1, hr⟩
      | exc a x =>
        show (σ.set i _)[j]? = _
        rw [List.getElem?_set_ne q]; exact h
      | frz ds => obtain ⟨a, xs, h1, hr⟩ := h; exact ⟨a, xs, by rw [List.getElem?_set_ne q]; exact h1, hr⟩
      | wk ds => obtain ⟨a, xs, h1, hr⟩ := h; exact ⟨a, xs, by rw [List.getElem?_set_ne q]; exact h1, hr⟩
      | mt b m => obtain ⟨p', xs, h1, h2, hr⟩ := h; exact ⟨p', xs, by rw [List.getElem?_set_ne q]; exact h1, Ex.new hp _ _ h2, hr⟩
  uq := fun j k p' bi di bj dj e1 e2 s1 s2 => by
    have aux : ∀ {j : Nat} {b : Bool} {ds' : Mt}, (env.set i (some (Sv.mt false m)))[j]? = some (some (.mt b ds')) → (σ.set i (some (V.ref p)))[j]? = some (some (.ref p')) → i = j → p' = p := fun {j b ds'} e s q => by
      subst q
      by_cases hl : i < env.length
      · rw [List.getElem?_set_self (by rw [r.len]; exact hl)] at s; cases s; rfl
      · rw [List.getElem?_eq_none (by simpa using hl)] at e; cases e
    have old : ∀ {j : Nat} {b : Bool} {ds' : Mt}, (env.set i (some (Sv.mt false m)))[j]? = some (some (.mt b ds')) → (σ.set i (some (V.ref p)))[j]? = some (some (.ref p')) → i ≠ j → p' ≠ p := fun {j b ds'} e s q z => by
      rw [List.getElem?_set_ne q] at e s
      obtain ⟨p2, xs2, g1, g2, _⟩ := r.ats j _ e
      rw [s] at g1; cases g1
      rw [z, hp] at g2; cases g2
    by_cases q1 : i = j
    · by_cases q2 : i = k
      · exact q1.symm.trans q2
      · exact absurd (aux e1 s1 q1) (old e2 s2 q2)
    · by_cases q2 : i = k
      · exact absurd (aux e2 s2 q2) (old e1 s1 q1)
      · rw [List.getElem?_set_ne q1] at e1 s1
        rw [List.getElem?_set_ne q2] at e2 s2
        exact r.uq j k p' bi di bj dj e1 e2 s1 s2
theorem RelE.setM {i : Nat} {p : Addr} {xs : List V} {ds : List PyData} (r : RelE K mg F P S H σ env) (hp : H p = none) (h : RpAll K S xs ds) :
    RelE K mg F P S (upd H p (.lst xs)) (σ.set i (some (.ref p))) (env.set i (some (.lis false ds))) := r.setMt hp h
end
end DL
namespace DL
open PySem L2

/-- the exception as it lies -/
def RelX (mg : Str → Option Value) (H : Hp) (x : Exn) (cls : Value) (d : Option Addr) : Prop :=
  mg x.name = some cls ∧ match x.field with
    | none => d = none
    | some pd => ∃ a f v, d = some a ∧ H a = some (.xd [(f, v)]) ∧ (∀ K S, Rp K S v pd)

section
variable (X : Cx) (W : WX)
def Post (F : Hp) (P : List (Option Addr)) (S : Hp) (σ : St) {α : Type} (o : Out α) (R : α → Sl → Prop) : Prop := match o with
  | .ok a e => R a e
  | .exc x e => ∀ cls d S' H', RelE X.K X.mg F P S' H' σ e → Ex S S' → RelX X.mg H' x cls d → W cls d σ H'
  | .bad => False
def tD (f : M PyData) : TE := fun σ H Q => ∃ F P S env, RelE X.K X.mg F P S H σ env ∧
  Post X W F P S σ (f env) fun d e => ∀ v S' H', RelE X.K X.mg F P S' H' σ e → Ex S S' → Rp X.K S' v d → Q v H'
def tDT (f : M Bool) : TT := fun σ H Q => ∃ F P S env, RelE X.K X.mg F P S H σ env ∧
  Post X W F P S σ (f env) fun b e => ∀ S' H', RelE X.K X.mg F P S' H' σ e → Ex S S' → Q b H'
def tDA (f : M (List PyData)) : TA := fun σ H Q => ∃ F P S env, RelE X.K X.mg F P S H σ env ∧
  Post X W F P S σ (f env) fun ds e => ∀ vs S' H', RelE X.K X.mg F P S' H' σ e → Ex S S' → RpAll X.K S' vs ds → Q vs H'
/-- an expression, a test, arguments -/
def DE (e : Expr) (f : M PyData) : Prop := PE X e (tD X W f)
def DT (e : Expr) (f : M Bool) : Prop := PT X e (tDT X W f)
def DW (e : Expr) (f : M Bool) : Prop := PW X e (tDT X W f)
def DA (es : List Expr) (f : M (List PyData)) : Prop := PA X es (tDA X W f)
end

section
variable {X : Cx} {W : WX} {F : Hp} {P : List (Option Addr)} {S S' : Hp} {σ : St}
theorem Post.mono {α : Type} {o : Out α} {R R' : α → Sl → Prop} (h : Post X W F P S σ o R) (e : Ex S S') (hr : ∀ a e, R a e → R' a e) : Post X W F P S' σ o R' := by
  cases o with
  | ok a s => exact hr a s h
  | exc x s => exact fun cls d S2 H2 r ex q => h cls d S2 H2 r (e.trans ex) q
  | bad => exact h
theorem Post.step {α β : Type} {o : Out α} {k : α → M β} {R : β → Sl → Prop} {R' : α → Sl → Prop} (h : Post X W F P S σ (o.then k) R) (hr : ∀ a e, Post X W F P S σ (k a e) R → R' a e) : Post X W F P S σ o R' := by
  cases o with
  | ok a s => exact hr a s h
  | exc x s => exact h
  | bad => exact h
theorem Post.lift {α : Type} {o : Option α} {e : Sl} {R : α → Sl → Prop} (h : Post X W F P S σ (M.lift o e) R) : ∃ a, o = some a ∧ R a e := by
  cases o with
  | some a => exact ⟨a, rfl, h⟩
  | none => exact h.elim
theorem PE_mono {e : Expr} {t t' : TE} (h : PE X e t) (m : ∀ σ H Q, t' σ H Q → t σ H Q) : PE X e t' := ⟨fun pins s σ H Q I q => h.run pins s σ H Q I (m σ H Q q)⟩
theorem PT_mono {e : Expr} {t t' : TT} (h : PT X e t) (m : ∀ σ H Q, t' σ H Q → t σ H Q) : PT X e t' := ⟨fun pins s σ H Q I q => h.run pins s σ H Q I (m σ H Q q)⟩
theorem PW_mono {e : Expr} {t t' : TT} (h : PW X e t) (m : ∀ σ H Q, t' σ H Q → t σ H Q) : PW X e t' := ⟨fun wh pins s σ H Q I q => h.run wh pins s σ H Q I (m σ H Q q)⟩
theorem PA_mono {es : List Expr} {t t' : TA} (h : PA X es t) (m : ∀ σ H Q, t' σ H Q → t σ H Q) : PA X es t' := ⟨fun pos pins s σ H Q I q => h.run pos pins s σ H Q I (m σ H Q q)⟩

/-! ### names and constants -/
def M.get (i : Nat) : M PyData := fun e => match e[i]? with
  | some (some (.dat d)) => .ok d e
  | some (some (.mt false (.lst ds))) => .ok (.list ds) (e.set i (some (.dat (.list ds))))
  | _ => .bad
/-- a list of one's own becomes data -/
theorem RelE.freeze {K : PySem.W.Frag} {mg : Str → Option Value} {H : Hp} {env : Sl} {i : Nat} {ds : List PyData} (r : RelE K mg F P S H σ env) (e : env[i]? = some (some (.lis false ds))) :
    ∃ p S', σ[i]? = some (some (.ref p)) ∧ Ex S S' ∧ RelE K mg F P S' H σ (env.set i (some (.dat (.list ds)))) ∧ Rp K S' (.ref p) (.list ds) := by
  obtain ⟨p, xs, h1, h2, h3, h4, h5, _⟩ := r.lis e
  have ex : Ex S (upd S p (.lst xs)) := Ex.new h3
  have rp : Rp K (upd S p (.lst xs)) (.ref p) (.list ds) := .lst upd_same (h5.mono ex)
  have hl : i < env.length := (List.getElem?_eq_some_iff.mp e).1
  refine ⟨p, upd S p (.lst xs), h1, ex, ⟨⟨fun a o q => ?_, r.fh, fun a o q => ?_, r.tb, r.ns.upd trivial, r.nf⟩, by simp [r.len], fun j s q => ?_, fun j k q bi di bj dj e1 e2 s1 s2 => ?_⟩, rp⟩
  · by_cases z : a = p
    · subst z; rw [upd_same] at q; cases q; exact h2
    · rw [upd_ne z] at q; exact r.sh a o q
  · by_cases z : a = p
    · subst z; exact .inl h4
    · rw [upd_ne z] at q; exact r.dj a o q
  · by_cases z : i = j
    · subst z
      rw [List.getElem?_set_self hl] at q; cases q
      exact ⟨.ref p, h1, rp⟩
    · rw [List.getElem?_set_ne z] at q
      have h := r.ats j s q
      cases s with
      | dat d => obtain ⟨v, g1, g2⟩ := h; exact ⟨v, g1, g2.mono ex⟩
      | raw v => exact h
      | fn x => exact h
      | exc a x => exact h
      | frz ds => obtain ⟨a, xs, g1, g2, g3⟩ := h; exact ⟨a, xs, g1, ex.l g2, g3.mono ex⟩
      | wk ds => obtain ⟨a, xs, g1, g2, g3⟩ := h; exact ⟨a, xs, g1, ex.t g2, g3.mono ex⟩
      | mt b ds' =>
        obtain ⟨p', xs', g1, g2, g3, g4, g5, g6⟩ := h
        refine ⟨p', xs', g1, g2, ?_, g4, g5.mono ex, g6⟩
        rw [upd_ne]
        · exact g3
        · intro y
          subst y
          exact z (r.uq i j p' false (.lst ds) b ds' e q h1 g1)
  · have aux : ∀ {j : Nat} {b : Bool} {ds' : Mt}, (env.set i (some (Sv.dat (.list ds))))[j]? = some (some (.mt b ds')) → i ≠ j := fun {j b ds'} e q => by
      subst q
      rw [List.getElem?_set_self hl] at e; cases e
    rw [List.getElem?_set_ne (aux e1)] at e1
    rw [List.getElem?_set_ne (aux e2)] at e2
    exact r.uq j k q bi di bj dj e1 e2 s1 s2
theorem de_var (i : Nat) {x : Str} {pos : Pos} (hN : X.N[i]? = some x := by rfl) (hv : Vis X.env.scope x := by first | exact Or.inl rfl | exact Or.inr (Or.inl rfl) | exact Or.inr (Or.inr rfl)) (hd : (x == ("__debug__" : Str)) = false := by decide)
    (hcd : (x == ("__classdict__" : Str)) = false := by decide) : DE X W (.Name x pos) (M.get i) := by
  refine PE_mono (pe_var hN hv hd hcd) fun σ H Q ⟨F, P, S, env, rel, post⟩ => ?_
  unfold M.get at post
  split at post
  · rename_i d e
    obtain ⟨v, h1, h2⟩ := rel.dat e
    exact ⟨v, h1, post v S H rel (Ex.refl S) h2⟩
  · rename_i ds e
    obtain ⟨p, S', h1, ex, rel', rp⟩ := rel.freeze e
    exact ⟨.ref p, h1, post (.ref p) S' H rel' ex rp⟩
  · exact post.elim
theorem de_c {e : Expr} {v : V} {d : PyData} (h : PE X e (tC v)) (r : ∀ K S, Rp K S v d) : DE X W e (pure d) :=
  PE_mono h fun σ H Q ⟨F, P, S, env, rel, post⟩ => post v S H rel (Ex.refl S) (r _ _)
theorem de_int {i : Int} {j pos} : DE X W (.Constant (.int i) j pos) (pure (.int i)) := de_c pe_int fun _ _ => .int i
theorem de_bool {b : Bool} {j pos} : DE X W (.Constant (.bool b) j pos) (pure (.bool b)) := de_c pe_bl fun _ _ => .bl b
theorem de_none {j pos} : DE X W (.Constant .none j pos) (pure .none) := de_c pe_non fun _ _ => .non
theorem de_str {x : Str} {j pos} (h : TxOk x := by decide +kernel) : DE X W (.Constant (.str x) j pos) (pure (.str x)) := de_c pe_str fun _ _ => .str x h
/-- a module's constant -/
def Glob (K : PySem.W.Frag) (mg : Str → Option Value) (x : Str) (d : PyData) : Prop := ∃ v u, mg x = some u ∧ RelV v u ∧ ∀ S, Rp K S v d
theorem de_glob {x : Str} {d : PyData} {pos : Pos} (h : Glob X.K X.mg x d) (hg : Gl X x := by rfl) (hd : (x == ("__debug__" : Str)) = false := by decide) : DE X W (.Name x pos) (pure d) := by
  obtain ⟨v, u, hm, r, rp⟩ := h
  exact PE_mono (pe_glob hg hm r hd) fun σ H Q ⟨F, P, S, env, rel, post⟩ => post v S H rel (Ex.refl S) (rp S)

/-! ### operations on data -/
/-- what a pure operation hands on -/
def Pure (K : PySem.W.Frag) (S H : Hp) (d : PyData) (Q : VK) : Prop := ∀ v S' H', Grow K S H S' H' → Rp K S' v d → Q v H'
def Op2 (X : Cx) (f : Value → Value → Sem Value) (g : PyData → PyData → Option PyData) : Prop :=
  ∃ r : R2, OpR X f r ∧ ∀ S H x y dx dy dz Q, Ex S H → Rp X.K S x dx → Rp X.K S y dy → g dx dy = some dz → Pure X.K S H dz Q → r x y H Q
def Op1 (X : Cx) (f : Value → Sem Value) (g : PyData → Option PyData) : Prop :=
  ∃ r : V → Hp → VK → Prop, UnR X f r ∧ ∀ S H x dx dz Q, Ex S H → Rp X.K S x dx → g dx = some dz → Pure X.K S H dz Q → r x H Q
def CallD (X : Cx) (f : Value) (g : List PyData → Option PyData) : Prop :=
  ∃ r : List V → Hp → VK → Prop, CallR X f r ∧ ∀ S H xs ds dz Q, Ex S H → RpAll X.K S xs ds → g ds = some dz → Pure X.K S H dz Q → r xs H Q
def orG {α β : Type} (g g' : α → β → Option PyData) : α → β → Option PyData := fun x y => match g x y with
  | some z => some z
  | none => g' x y
def orG1 {α : Type} (g g' : α → Option PyData) : α → Option PyData := fun x => match g x with
  | some z => some z
  | none => g' x
theorem Op2.or {f : Value → Value → Sem Value} {g g' : PyData → PyData → Option PyData} (h : Op2 X f g) (h' : Op2 X f g') : Op2 X f (orG g g') := by
  obtain ⟨r, h1, h2⟩ := h
  obtain ⟨r', h1', h2'⟩ := h'
  refine ⟨_, h1.or h1', fun S H x y dx dy dz Q e rx ry eq p => ?_⟩
  unfold orG at eq
  split at eq
  · rename_i z q; cases eq; exact .inl (h2 S H x y dx dy _ Q e rx ry q p)
  · exact .inr (h2' S H x y dx dy _ Q e rx ry eq p)
theorem CallR_or {f : Value} {r r' : List V → Hp → VK → Prop} (h : CallR X f r) (h' : CallR X f r') : CallR X f (fun xs H Q => r xs H Q ∨ r' xs H Q) := by
  intro pins s σ H xs us Q I rv q
  rcases q with q | q
  · exact h pins s σ H xs us Q I rv q
  · exact h' pins s σ H xs us Q I rv q
theorem CallD.or {f : Value} {g g' : List PyData → Option PyData} (h : CallD X f g) (h' : CallD X f g') : CallD X f (orG1 g g') := by
  obtain ⟨r, h1, h2⟩ := h
  obtain ⟨r', h1', h2'⟩ := h'
  refine ⟨_, CallR_or h1 h1', fun S H xs ds dz Q e rx eq p => ?_⟩
  unfold orG1 at eq
  split at eq
  · rename_i z q; cases eq; exact .inl (h2 S H xs ds _ Q e rx q p)
  · exact .inr (h2' S H xs ds _ Q e rx eq p)
/-- two expressions, then an operation by values -/
theorem two {a b : Expr} {fa fb : M PyData} {g : PyData → PyData → Option PyData} {r : R2} {H : Hp} {Q : VK}
    (hg : ∀ S H x y dx dy dz Q, Ex S H → Rp X.K S x dx → Rp X.K S y dy → g dx dy = some dz → Pure X.K S H dz Q → r x y H Q)
    (h : tD X W (fa >>= fun x => fb >>= fun y => M.lift (g x y)) σ H Q) : tOp r (tD X W fa) (tD X W fb) σ H Q := by
  obtain ⟨F, P, S, env, rel, post⟩ := h
  refine ⟨F, P, S, env, rel, post.step fun dx e1 p1 v S1 H1 rel1 ex1 rp1 => ?_⟩
  refine ⟨F, P, S1, e1, rel1, (p1.step (R' := fun dy e2 => Post X W F P S σ (M.lift (g dx dy) e2) _) fun dy e2 q => q).mono ex1 fun dy e2 p2 u S2 H2 rel2 ex2 rp2 => ?_⟩
  obtain ⟨dz, e, q⟩ := p2.lift
  exact hg S2 H2 v u dx dy dz Q rel2.sh (rp1.mono ex2) rp2 e fun w S3 H3 gr rw => q w S3 H3 (rel2.grow gr) ((ex1.trans ex2).trans gr.ss) rw
theorem de_bin {a b : Expr} {op : Operator} {pos : Pos} {fa fb : M PyData} {g : PyData → PyData → Option PyData} (ho : Op2 X (binaryOp op) g) (ha : DE X W a fa) (hb : DE X W b fb) :
    DE X W (.BinOp a op b pos) (fa >>= fun x => fb >>= fun y => M.lift (g x y)) := by
  obtain ⟨r, h1, h2⟩ := ho
  exact PE_mono (pe_op h1 ha hb) fun σ H Q h => two (a := a) (b := b) h2 h
theorem de_cmp {a b : Expr} {op : CmpOp} {pos : Pos} {fa fb : M PyData} {g : PyData → PyData → Option PyData} (ho : Op2 X (compareOp op) g) (ha : DE X W a fa) (hb : DE X W b fb) (hm : behindInMarks op b = false := by first | exact nobehind _ (by decide) (by decide) | rfl) :
    DE X W (.Compare a [op] [b] pos) (fa >>= fun x => fb >>= fun y => M.lift (g x y)) := by
  obtain ⟨r, h1, h2⟩ := ho
  exact PE_mono (pe_cmpR h1 ha hb hm) fun σ H Q h => two (a := a) (b := b) h2 h
/-- a truth -/
def asB : PyData → Option Bool
  | .bool b => some b
  | _ => none
theorem asB_eq {d : PyData} {b : Bool} (h : asB d = some b) : d = .bool b := by
  cases d <;> simp [asB] at h
  subst h; rfl
theorem Rp.bl_inv {K : PySem.W.Frag} {v : V} {b : Bool} (h : Rp K S v (.bool b)) : v = .bl b := by cases h; rfl
theorem tD_test {f : M PyData} {H : Hp} {Q : Bool → Hp → Prop} (h : tDT X W (f >>= fun d => M.lift (asB d)) σ H Q) : tD X W f σ H fun x H1 => ∃ k, x = .bl k ∧ Q k H1 := by
  obtain ⟨F, P, S, env, rel, post⟩ := h
  refine ⟨F, P, S, env, rel, post.step fun d e p v S1 H1 rel1 ex1 rp1 => ?_⟩
  obtain ⟨b, e, q⟩ := p.lift
  have := asB_eq e
  subst this
  exact ⟨b, rp1.bl_inv, q S1 H1 rel1 ex1⟩
theorem dt_cmp {a b : Expr} {op : CmpOp} {pos : Pos} {fa fb : M PyData} {g : PyData → PyData → Option PyData} (ho : Op2 X (compareOp op) g) (ha : DE X W a fa) (hb : DE X W b fb) (hm : behindInMarks op b = false := by first | exact nobehind _ (by decide) (by decide) | rfl) :
    DT X W (.Compare a [op] [b] pos) ((fa >>= fun x => fb >>= fun y => M.lift (g x y)) >>= fun d => M.lift (asB d)) := by
  obtain ⟨r, h1, h2⟩ := ho
  exact PT_mono (pt_cmpR h1 ha hb hm) fun σ H Q h => two (a := a) (b := b) h2 (tD_test h)
theorem dt_val {e : Expr} {f : M PyData} (h : DE X W e f) (he : ∀ whole, isTrue e X.env whole = (do let v ← whole; standAt e.pos; holding [v] (truthy v)) := by intro _; rfl) : DT X W e (f >>= fun d => M.lift (asB d)) :=
  PT_mono (pt_val h he) fun σ H Q h => tD_test h
theorem DW.dt {e : Expr} {f : M Bool} (h : DW X W e f) : DT X W e f := PW.pt h
def mAnd (a b : M Bool) : M Bool := a >>= fun x => if x = true then b else pure false
def mOr (a b : M Bool) : M Bool := a >>= fun x => if x = true then pure true else b
theorem dw_and1 {a : Expr} {pos : Pos} {f : M Bool} (h : DT X W a f) : DW X W (.BoolOp .And [a] pos) f := pw_and1 h
theorem dw_or1 {a : Expr} {pos : Pos} {f : M Bool} (h : DT X W a f) : DW X W (.BoolOp .Or [a] pos) f := pw_or1 h
theorem dw_and {a b : Expr} {rest : List Expr} {pos : Pos} {f g : M Bool} (ha : DT X W a f) (hb : DW X W (.BoolOp .And (b :: rest) pos) g) : DW X W (.BoolOp .And (a :: b :: rest) pos) (mAnd f g) := by
  refine PW_mono (pw_and ha hb) fun σ H Q ⟨F, P, S, env, rel, post⟩ => ?_
  refine ⟨F, P, S, env, rel, Post.step post fun c e p S1 H1 rel1 ex1 => ?_⟩
  cases c with
  | true =>
    rw [if_pos rfl] at p ⊢
    exact ⟨F, P, S1, e, rel1, p.mono ex1 fun b e2 q S2 H2 r2 x2 => q S2 H2 r2 (ex1.trans x2)⟩
  | false => exact p S1 H1 rel1 ex1
theorem dw_or {a b : Expr} {rest : List Expr} {pos : Pos} {f g : M Bool} (ha : DT X W a f) (hb : DW X W (.BoolOp .Or (b :: rest) pos) g) : DW X W (.BoolOp .Or (a :: b :: rest) pos) (mOr f g) := by
  refine PW_mono (pw_or ha hb) fun σ H Q ⟨F, P, S, env, rel, post⟩ => ?_
  refine ⟨F, P, S, env, rel, Post.step post fun c e p S1 H1 rel1 ex1 => ?_⟩
  cases c with
  | true => exact p S1 H1 rel1 ex1
  | false =>
    rw [if_neg Bool.false_ne_true] at p ⊢
    exact ⟨F, P, S1, e, rel1, p.mono ex1 fun b e2 q S2 H2 r2 x2 => q S2 H2 r2 (ex1.trans x2)⟩
theorem dt_not {a : Expr} {pos : Pos} {f : M Bool} (h : DT X W a f) : DT X W (.UnaryOp .Not a pos) (f >>= fun b => pure (!b)) := by
  refine PT_mono (pt_not h) fun σ H Q ⟨F, P, S, env, rel, post⟩ => ?_
  exact ⟨F, P, S, env, rel, post.step fun c e p S1 H1 rel1 ex1 => p S1 H1 rel1 ex1⟩
/-! as values -/
def vAnd (a b : M PyData) : M PyData := a >>= fun x => M.lift (asB x) >>= fun c => if c = true then b else pure (.bool false)
def vOr (a b : M PyData) : M PyData := a >>= fun x => M.lift (asB x) >>= fun c => if c = true then pure (.bool true) else b
theorem de_one {a : Expr} {op} {pos : Pos} {f : M PyData} (h : DE X W a f) : DE X W (.BoolOp op [a] pos) f := pe_one h
theorem de_and {a b : Expr} {rest : List Expr} {pos : Pos} {f g : M PyData} (ha : DE X W a f) (hb : DE X W (.BoolOp .And (b :: rest) pos) g) : DE X W (.BoolOp .And (a :: b :: rest) pos) (vAnd f g) := by
  refine PE_mono (pe_and ha hb) fun σ H Q ⟨F, P, S, env, rel, post⟩ => ?_
  refine ⟨F, P, S, env, rel, Post.step post fun d e p v S1 H1 rel1 ex1 rp1 => ?_⟩
  obtain ⟨c, ec, p2⟩ := (Post.step p (R' := fun c e2 => _) fun c e2 q => q).lift
  clear p
  have := asB_eq ec
  subst this
  refine ⟨c, rp1.bl_inv, ?_⟩
  cases c with
  | true =>
    rw [if_pos rfl] at p2 ⊢
    exact ⟨F, P, S1, e, rel1, p2.mono ex1 fun b e2 q v2 S2 H2 r2 x2 => q v2 S2 H2 r2 (ex1.trans x2)⟩
  | false => exact p2 (.bl false) S1 H1 rel1 ex1 (.bl false)
theorem de_or {a b : Expr} {rest : List Expr} {pos : Pos} {f g : M PyData} (ha : DE X W a f) (hb : DE X W (.BoolOp .Or (b :: rest) pos) g) : DE X W (.BoolOp .Or (a :: b :: rest) pos) (vOr f g) := by
  refine PE_mono (pe_or ha hb) fun σ H Q ⟨F, P, S, env, rel, post⟩ => ?_
  refine ⟨F, P, S, env, rel, Post.step post fun d e p v S1 H1 rel1 ex1 rp1 => ?_⟩
  obtain ⟨c, ec, p2⟩ := (Post.step p (R' := fun c e2 => _) fun c e2 q => q).lift
  clear p
  have := asB_eq ec
  subst this
  refine ⟨c, rp1.bl_inv, ?_⟩
  cases c with
  | true => exact p2 (.bl true) S1 H1 rel1 ex1 (.bl true)
  | false =>
    rw [if_neg Bool.false_ne_true] at p2 ⊢
    exact ⟨F, P, S1, e, rel1, p2.mono ex1 fun b e2 q v2 S2 H2 r2 x2 => q v2 S2 H2 r2 (ex1.trans x2)⟩
theorem de_not {a : Expr} {pos : Pos} {f : M PyData} (h : DE X W a f) : DE X W (.UnaryOp .Not a pos) (f >>= fun d => M.lift (asB d) >>= fun b => pure (.bool (!b))) := by
  refine PE_mono (pe_not h) fun σ H Q ⟨F, P, S, env, rel, post⟩ => ?_
  refine ⟨F, P, S, env, rel, Post.step post fun d e p v S1 H1 rel1 ex1 rp1 => ?_⟩
  obtain ⟨c, ec, p2⟩ := (Post.step p (R' := fun c e2 => _) fun c e2 q => q).lift
  clear p
  have := asB_eq ec
  subst this
  exact ⟨c, rp1.bl_inv, p2 (.bl (!c)) S1 H1 rel1 ex1 (.bl _)⟩
theorem de_if {c a b : Expr} {pos : Pos} {t : M Bool} {f g : M PyData} (hc : DT X W c t) (ha : DE X W a f) (hb : DE X W b g) : DE X W (.IfExp c a b pos) (t >>= fun x => if x = true then f else g) := by
  refine PE_mono (pe_ifExp hc ha hb) fun σ H Q ⟨F, P, S, env, rel, post⟩ => ?_
  refine ⟨F, P, S, env, rel, Post.step post fun c e p S1 H1 rel1 ex1 => ?_⟩
  cases c with
  | true =>
    rw [if_pos rfl] at p ⊢
    exact ⟨F, P, S1, e, rel1, p.mono ex1 fun b e2 q v2 S2 H2 r2 x2 => q v2 S2 H2 r2 (ex1.trans x2)⟩
  | false =>
    rw [if_neg Bool.false_ne_true] at p ⊢
    exact ⟨F, P, S1, e, rel1, p.mono ex1 fun b e2 q v2 S2 H2 r2 x2 => q v2 S2 H2 r2 (ex1.trans x2)⟩
/-! arguments, displays -/
theorem da_nil : DA X W [] (pure []) := PA_mono pa_nil fun σ H Q ⟨F, P, S, env, rel, post⟩ => post [] S H rel (Ex.refl S) .nil
theorem da_cons {e : Expr} {es : List Expr} {f : M PyData} {g : M (List PyData)} (h : DE X W e f) (hr : DA X W es g) (hs : starEach (e :: es) X.env = (false, eval e X.env) :: starEach es X.env := by rfl) :
    DA X W (e :: es) (f >>= fun d => g >>= fun ds => pure (d :: ds)) := by
  refine PA_mono (pa_cons h hr hs) fun σ H Q ⟨F, P, S, env, rel, post⟩ => ?_
  refine ⟨F, P, S, env, rel, Post.step post fun d e p v S1 H1 rel1 ex1 rp1 => ?_⟩
  exact ⟨F, P, S1, e, rel1, (Post.step p (R' := fun ds e2 => _) fun ds e2 q => q).mono ex1 fun ds e2 q vs S2 H2 r2 x2 rp2 => q (v :: vs) S2 H2 r2 (ex1.trans x2) (.cons (rp1.mono x2) rp2)⟩
def szOk (n : Nat) : Option Unit := if n ≤ sizeLine then some () else none
theorem szOk_le {n : Nat} {u : Unit} (h : szOk n = some u) : n ≤ sizeLine := by
  unfold szOk at h; split at h
  · assumption
  · cases h
def mkTup (ds : List PyData) : Option PyData := if ds.length ≤ sizeLine then some (.tuple ds) else none
def mkLst (ds : List PyData) : Option PyData := if ds.length ≤ sizeLine then some (.list ds) else none
/-- a new tuple, its object known -/
def tTupF (t : TA) : TE := fun σ H Q => t σ H fun xs H1 => xs.length ≤ sizeLine ∧ ∀ p ob, H1 p = none → ob.dict = none → Q (.ref p) (upd H1 p (.frz ob (.tup xs)))
theorem pe_tupF {es : List Expr} {t : TA} {x1} {pos : Pos} (h : PA X es t) : PE X (.Tuple es x1 pos) (tTupF t) := by
  refine ⟨fun pins s σ H Q I hq => PySem.wpAny_Tuple_spliced (thn (h.run pos pins s σ H _ I hq) fun us s1 ⟨xs, H1, I1, r, z, q⟩ => ⟨by rw [← r.length]; exact z, ?_⟩)⟩
  exact ⟨.ref s1.heap.objs.size, _, I1.laid (t' := s1.toks) (o := .frz { cls := .type "tuple", data := .seq us.toArray } (.tup xs)) (fun b u e => Heap.get?_push_of_some _ e) (Nat.le_refl _) ⟨Heap.get?_push_size _ rfl, z, us, r, _, Heap.get?_push_size _ rfl, rfl, _, rfl⟩, rfl, q _ _ (I1.hok.fresh (Nat.le_refl _)) rfl⟩
theorem PlT.of {K : PySem.W.Frag} {S : Hp} {a : Addr} {ob : Obj} {xs : List V} (h : S a = some (.frz ob (.tup xs))) (g : ob.dict = none) : PlT K S a xs := .inl ⟨ob, h, g⟩
theorem de_tup {es : List Expr} {x1} {pos : Pos} {f : M (List PyData)} (h : DA X W es f) : DE X W (.Tuple es x1 pos) (f >>= fun ds => M.lift (mkTup ds)) := by
  refine PE_mono (pe_tupF h) fun σ H Q ⟨F, P, S, env, rel, post⟩ => ?_
  refine ⟨F, P, S, env, rel, Post.step post fun ds e p vs S1 H1 rel1 ex1 rp1 => ?_⟩
  obtain ⟨d, ed, q⟩ := p.lift
  unfold mkTup at ed
  split at ed
  · rename_i hl
    cases ed
    refine ⟨by rw [rp1.length]; exact hl, fun p ob hp hn => ?_⟩
    have gr : Grow X.K S1 H1 (upd S1 p (.frz ob (.tup vs))) (upd H1 p (.frz ob (.tup vs))) := Grow.new rel1.sh hp
    exact q (.ref p) _ _ (rel1.grow gr) (ex1.trans gr.ss) (.tup (PlT.of upd_same hn) (rp1.mono gr.ss))
  · cases ed
theorem de_lst {es : List Expr} {pos : Pos} {f : M (List PyData)} (h : DA X W es f) : DE X W (.List es pos) (f >>= fun ds => M.lift (mkLst ds)) := by
  refine PE_mono (pe_lst h) fun σ H Q ⟨F, P, S, env, rel, post⟩ => ?_
  refine ⟨F, P, S, env, rel, Post.step post fun ds e p vs S1 H1 rel1 ex1 rp1 => ?_⟩
  obtain ⟨d, ed, q⟩ := p.lift
  unfold mkLst at ed
  split at ed
  · rename_i hl
    cases ed
    refine ⟨by rw [rp1.length]; exact hl, fun p hp => ?_⟩
    have gr : Grow X.K S1 H1 (upd S1 p (.lst vs)) (upd H1 p (.lst vs)) := Grow.new rel1.sh hp
    exact q (.ref p) _ _ (rel1.grow gr) (ex1.trans gr.ss) (.lst upd_same (rp1.mono gr.ss))
  · cases ed
theorem de_callB {x : Str} {id : String} {e : Expr} {es : List Expr} {p pos : Pos} {f : M (List PyData)} {g : List PyData → Option PyData} (hc : CallD X (.builtin id) g) (hm : X.mg x = none) (hv : bootBuiltins x = some (.builtin id)) (ha : DA X W (e :: es) f) (hg : Gl X x := by rfl)
    (hn : x ≠ "__name__" := by decide) (hdb : (x == ("__debug__" : Str)) = false := by decide)
    (he : starEach (e :: es) X.env = (false, eval e X.env) :: starEach es X.env := by rfl) (hpl : (backTo pos (starEach es X.env)).any (·.1) = false := by rfl) : DE X W (.Call (.Name x p) (e :: es) [] pos) (f >>= fun ds => M.lift (g ds)) := by
  obtain ⟨r, h1, h2⟩ := hc
  refine PE_mono (pe_callB h1 hg hm hv ha hn hdb he hpl) fun σ H Q ⟨F, P, S, env, rel, post⟩ => ?_
  refine ⟨F, P, S, env, rel, Post.step post fun ds e p vs S1 H1 rel1 ex1 rp1 => ?_⟩
  obtain ⟨d, ed, q⟩ := p.lift
  exact h2 S1 H1 vs ds d Q rel1.sh rp1 ed fun w S3 H3 gr rw => q w S3 H3 (rel1.grow gr) (ex1.trans gr.ss) rw
theorem de_callTy {x : Str} {T : String} {e : Expr} {es : List Expr} {p pos : Pos} {f : M (List PyData)} {g : List PyData → Option PyData} (hc : CallD X (.type T) g) (hm : X.mg x = none) (hv : bootBuiltins x = some (.type T)) (ha : DA X W (e :: es) f) (hg : Gl X x := by rfl)
    (hn : x ≠ "__name__" := by decide) (hdb : (x == ("__debug__" : Str)) = false := by decide)
    (he : starEach (e :: es) X.env = (false, eval e X.env) :: starEach es X.env := by rfl) (hpl : (backTo pos (starEach es X.env)).any (·.1) = false := by rfl) : DE X W (.Call (.Name x p) (e :: es) [] pos) (f >>= fun ds => M.lift (g ds)) := by
  obtain ⟨r, h1, h2⟩ := hc
  refine PE_mono (pe_callTy h1 hg hm hv ha hn hdb he hpl) fun σ H Q ⟨F, P, S, env, rel, post⟩ => ?_
  refine ⟨F, P, S, env, rel, Post.step post fun ds e p vs S1 H1 rel1 ex1 rp1 => ?_⟩
  obtain ⟨d, ed, q⟩ := p.lift
  exact h2 S1 H1 vs ds d Q rel1.sh rp1 ed fun w S3 H3 gr rw => q w S3 H3 (rel1.grow gr) (ex1.trans gr.ss) rw
end
end DL
/-! DLf: new tuples, their objects known -/
namespace DL
open PySem PySem.Spec L2 PyProof.Rows
abbrev tObj (us : List Value) : Obj := { cls := .type "tuple", data := .seq us.toArray }
section
variable {X : Cx}
/-- what is wanted of a new tuple -/
def NewT (H : Hp) (xs : List V) (Q : VK) : Prop := ∀ p ob, H p = none → ob.dict = none → Q (.ref p) (upd H p (.frz ob (.tup xs)))
theorem Inv.newT {pins : List (Addr × Obj)} {σ : L2.St} {H : Hp} {s : Shared} {xs : List V} {us : List Value} {Q : VK} (I : Inv X pins σ H s) (z : xs.length ≤ sizeLine) (r : Vals xs us) (q : NewT H xs Q) : EP X pins σ Q (.ref s.heap.objs.size) { s with heap := s.heap.push (tObj us) } :=
  ⟨.ref s.heap.objs.size, _, I.laid (t' := s.toks) (o := .frz (tObj us) (.tup xs)) (fun b ob q => Heap.get?_push_of_some _ q) (Nat.le_refl _) ⟨Heap.get?_push_size _ rfl, z, us, r, IsTup.new _ _⟩, rfl, q _ _ (I.hok.fresh (Nat.le_refl _)) rfl⟩
def rCatF (K : PySem.W.Frag) : R2 := fun x y H Q => ∃ a b xs ys, x = .ref a ∧ y = .ref b ∧ SqT K H a xs ∧ SqT K H b ys ∧ xs.length + ys.length ≤ sizeLine ∧ (xs = [] → Q (.ref b) H) ∧ (xs ≠ [] → ys = [] → Q (.ref a) H) ∧ (xs ≠ [] → ys ≠ [] → NewT H (xs ++ ys) Q)
theorem op_catF : OpR X (binaryOp .Add) (rCatF X.K) := by
  intro pins s σ H x y v u Q I rx ry h
  obtain ⟨a, b, xs, ys, rfl, rfl, ha, hb, hz, q0, q1, q2⟩ := h
  cases rx
  cases ry
  obtain ⟨its, r1, p1, _⟩ := I.tuple ha
  obtain ⟨its2, r2, p2, _⟩ := I.tuple hb
  by_cases hx : xs = []
  · subst hx
    cases r1
    exact cat_tup0 p1 p2 ⟨.ref b, H, I, rfl, q0 rfl⟩
  · refine HT.cat_tup p1 p2 (fun z => hx (r1.nil_iff.mp z)) (fun z => ⟨.ref a, H, I, rfl, q1 hx (r2.nil_iff.mp z)⟩) (fun z => ?_) (by rw [← r1.length, ← r2.length]; exact hz)
    exact Inv.newT I (by rw [List.length_append]; exact hz) (r1.append r2) (q2 hx fun w => z (r2.nil_iff.mpr w))
def rSlF (K : PySem.W.Frag) : V → Option Int → Option Int → Hp → VK → Prop := fun x lo hi H Q => ∃ a xs, x = .ref a ∧ SqT K H a xs ∧
  (HT.sIx xs.length 0 lo = 0 ∧ HT.sIx xs.length xs.length hi = xs.length → Q (.ref a) H) ∧ (¬ (HT.sIx xs.length 0 lo = 0 ∧ HT.sIx xs.length xs.length hi = xs.length) → NewT H (cutV xs lo hi) Q)
theorem sl_tupF : SlR X (rSlF X.K) := by
  intro pins s σ H x v vl vu lo hi sl Q I rx hs pl pu h
  obtain ⟨a, xs, rfl, hx, q1, q2⟩ := h
  cases rx
  obtain ⟨its, r, ht, hz⟩ := I.tuple hx
  have hlen : its.toArray.size = xs.length := by rw [List.size_toArray]; exact r.length.symm
  refine ⟨"tuple", _, PyProof.Rows.slot_tuple_getitem.lookup, ht.typeIs, ?_⟩
  by_cases hw : HT.sIx xs.length 0 lo = 0 ∧ HT.sIx xs.length xs.length hi = xs.length
  · exact getItem_tuple_whole ht hs pl pu (by rw [hlen]; exact hw) ⟨.ref a, H, I, rfl, q1 hw⟩
  · refine HT.getItem_tuple_cut ht hs pl pu (by rw [hlen]; exact hw) ?_ (by rw [hlen]; exact hz)
    rw [hlen]
    exact Inv.newT I (Nat.le_trans (cutV_length xs lo hi) hz) ((r.drop (HT.sIx xs.length 0 lo)).take (HT.sIx xs.length xs.length hi - HT.sIx xs.length 0 lo)) (q2 hw)
theorem call_tupleF : CallR X (.type "tuple") (fun xs H Q => ∃ p ys, xs = [.ref p] ∧ ((SqL X.K H p ys ∧ NewT H ys Q) ∨ (SqT X.K H p ys ∧ Q (.ref p) H))) := by
  intro pins s σ H xs us Q I r h
  obtain ⟨p, ys, rfl, h⟩ := h
  obtain ⟨u, rfl, rx⟩ := vals1 r
  cases rx
  rcases h with ⟨hq, q⟩ | ⟨hq, q⟩
  · obtain ⟨its, r', pl, hz⟩ := I.list hq
    have hlen := r'.length
    refine call_tuple_list pl.isList (fun h' kp => ?_) (by simp only [List.size_toArray] <;> omega)
    exact Inv.newT (s := { s with heap := h' }) (I.kept (t' := s.toks) kp) hz r' q
  · obtain ⟨its, r', pl, hz⟩ := I.tuple hq
    exact call_tuple_same pl ⟨.ref p, H, I, rfl, q⟩
def rRepF (K : PySem.W.Frag) : R2 := fun x y H Q => ∃ (l : Addr) (k : Int) (xs : List V), x = .ref l ∧ y = .int k ∧ SqT K H l xs ∧ xs ≠ [] ∧ 2 ≤ k ∧ k ≤ 1000 ∧ xs.length ≤ 1000 ∧ NewT H (List.replicate k.toNat xs).flatten Q
theorem op_repF : OpR X (binaryOp .Mult) (rRepF X.K) := by
  intro pins s σ H x y v u Q I rx ry h
  obtain ⟨l, k, xs, rfl, rfl, hT, hne, h1, h2, hz, q⟩ := h
  cases rx
  obtain ⟨t, rfl⟩ := ry
  obtain ⟨its, r, ⟨⟨cls, dd, data, sl⟩, ho, hc, n, hd⟩, hs⟩ := I.tuple hT
  simp only at hc hd
  subst hc hd
  have hle : its.length = xs.length := r.length.symm
  have hi : its.toArray.isEmpty = false := by
    cases its with
    | nil => exact absurd (List.eq_nil_of_length_eq_zero hle.symm) hne
    | cons a b => rfl
  have big : k.toNat * xs.length ≤ 1000 * 1000 := Nat.mul_le_mul (by omega) hz
  have hm : ((its.toArray.size : Nat) : Int) * k ≤ 1000000 := by
    have a1 : ((xs.length : Nat) : Int) * k ≤ 1000 * k := Int.mul_le_mul_of_nonneg_right (by omega) (by omega)
    rw [List.size_toArray, hle]; omega
  have fit : (List.replicate k.toNat its).flatten.length ≤ sizeLine := by
    rw [PyProof.Rows.lm_len_rep_flat, hle, sizeLine_eq]; omega
  have c0 : (decide (k < -(2 ^ 63)) || decide (k ≥ 2 ^ 63)) = false := by
    simp only [Bool.or_eq_false_iff, decide_eq_false_iff_not]; omega
  have c1 : (its.toArray.isEmpty || k == 1) = false := by
    rw [hi, Bool.false_or]; exact beq_eq_false_iff_ne.mpr (by omega)
  have c2 : (decide (k ≤ 0) || its.toArray.isEmpty) = false := by
    rw [hi, Bool.or_false]; exact decide_eq_false (by omega)
  have c4 : Builtin.Tuple.tupleTooMany (((its.toArray.size : Nat) : Int) * k) = false := by
    unfold Builtin.Tuple.tupleTooMany
    rw [sizeLine_eq]; exact decide_eq_false (by omega)
  have last : EP X pins σ Q (.ref s.heap.objs.size) { s with heap := s.heap.push (tObj (List.replicate k.toNat its).flatten) } := Inv.newT I (by rw [PyProof.Rows.lm_len_rep_flat, sizeLine_eq]; omega) (r.rep k.toNat) q
  refine wpAny_binaryOp_repeat_ref (T := "tuple") (U := "int") (by decide) ⟨_, ho, rfl⟩ (fun s' => typeIs_int s' k t) noFill_tuple_mul F.fills_int_mul F.slot_int_rmul repeat_tuple F.slot_int_index.lookup (call_meets F.slot_int_rmul (typeIs_int s k t) F.entry_int_rmul (F.args_int_rmul_2 _ _)
    (int_rmul_tuple k t l its.toArray n dd sl) ⟨ho, rfl, ⟨_, ho, rfl⟩, call_meets F.slot_tuple_mul ⟨_, ho, rfl⟩ F.entry_tuple_mul (F.args_tuple_mul_2 _ _) (tuple_mulW l its.toArray n dd sl k t c0 c1 c2 (by omega) c4 (by rw [size_rep, List.size_toArray]; exact fit)) ⟨ho, ?_⟩⟩)
  rw [size_rep]
  exact last
end
end DL
namespace DL
open PySem L2

/-! ### texts -/
theorem strOk_mem {x : Str} (h : PyData.strOk x = true) : ∀ c ∈ x.cps.toList, c < 0x110000 := by
  intro c hc
  unfold PyData.strOk at h
  rw [Array.all_eq_true_iff_forall_mem] at h
  simpa using h c (by simpa using hc)
theorem strOk_of {x : Str} (h : ∀ c ∈ x.cps.toList, c < 0x110000) : PyData.strOk x = true := by
  unfold PyData.strOk
  rw [Array.all_eq_true_iff_forall_mem]
  intro c hc
  simpa using h c (by simpa using hc)
theorem length_cps (x : Str) : x.length = x.cps.toList.length := by simp [Str.length]
theorem TxOk.of_sub {x y : Str} (h : TxOk x) (hl : y.length ≤ x.length) (hs : ∀ c ∈ y.cps.toList, c ∈ x.cps.toList) : TxOk y :=
  ⟨Nat.le_trans hl h.1, strOk_of fun c hc => strOk_mem h.2 c (hs c hc)⟩
theorem append_cps (x y : Str) : (x ++ y).cps.toList = x.cps.toList ++ y.cps.toList := by
  show (Str.append x y).cps.toList = _
  simp [Str.append]
theorem append_length (x y : Str) : (x ++ y).length = x.length + y.length := by
  rw [length_cps, append_cps, List.length_append, ← length_cps, ← length_cps]
theorem TxOk.append {x y : Str} (hx : TxOk x) (hy : TxOk y) (h : x.length + y.length ≤ sizeLine) : TxOk (x ++ y) := by
  refine ⟨by rw [append_length]; exact h, strOk_of fun c hc => ?_⟩
  rw [append_cps] at hc
  rcases List.mem_append.mp hc with hc | hc
  · exact strOk_mem hx.2 c hc
  · exact strOk_mem hy.2 c hc
theorem cutS_cps (z : Str) (lo hi : Option Int) : (cutS z lo hi).cps.toList = (z.cps.toList.drop (HT.sIx z.length 0 lo)).take (HT.sIx z.length z.length hi - HT.sIx z.length 0 lo) := by
  simp [cutS]
theorem TxOk.cut {z : Str} (h : TxOk z) (lo hi : Option Int) : TxOk (cutS z lo hi) := by
  refine h.of_sub ?_ ?_
  · rw [length_cps, cutS_cps, length_cps, List.length_take, List.length_drop]; omega
  · intro c hc
    rw [cutS_cps] at hc
    exact List.mem_of_mem_drop (List.mem_of_mem_take hc)
theorem TxOk.one {z : Str} {c : Nat} (h : TxOk z) (hc : c ∈ z.cps.toList) : TxOk ⟨#[c]⟩ := by
  refine ⟨by show 1 ≤ sizeLine; decide, strOk_of fun d hd => ?_⟩
  have : d = c := by simpa using hd
  subst this
  exact strOk_mem h.2 d hc

section
variable {X : Cx} {K : PySem.W.Frag} {S H : Hp}
/-! ### looking at data -/
theorem Rp.int_inv {v : V} {i : Int} (h : Rp K S v (.int i)) : v = .int i := by cases h; rfl
theorem Rp.str_inv {v : V} {x : Str} (h : Rp K S v (.str x)) : v = .str x ∧ TxOk x := by cases h; rename_i h; exact ⟨rfl, h⟩
theorem Rp.non_inv {v : V} (h : Rp K S v .none) : v = .non := by cases h; rfl
theorem Rp.lst_inv {v : V} {ds : List PyData} (h : Rp K S v (.list ds)) : ∃ a xs, v = .ref a ∧ S a = some (.lst xs) ∧ RpAll K S xs ds := by
  cases h; rename_i a xs h r; exact ⟨a, xs, rfl, h, r⟩
theorem Rp.tup_invP {v : V} {ds : List PyData} (h : Rp K S v (.tuple ds)) : ∃ a xs, v = .ref a ∧ PlT K S a xs ∧ RpAll K S xs ds := by
  cases h; rename_i a xs h r; exact ⟨a, xs, rfl, h, r⟩
theorem Rp.tup_inv {v : V} {ds : List PyData} (h : Rp K S v (.tuple ds)) : ∃ a xs, v = .ref a ∧ SqT K S a xs ∧ RpAll K S xs ds := by
  obtain ⟨a, xs, e, h, r⟩ := h.tup_invP; exact ⟨a, xs, e, h.sq, r⟩
theorem Rp.dct_inv {v : V} {ds : List (PyData × PyData)} (h : Rp K S v (.dict ds)) : ∃ a kvs, v = .ref a ∧ Rd S a (.dK kvs) ∧ RpKv K S kvs ds := by
  cases h; rename_i a xs h r; exact ⟨a, xs, rfl, h, r⟩
/-- what is pure and new -/
theorem Pure.same {d : PyData} {v : V} {Q : VK} (p : Pure K S H d Q) (e : Ex S H) (r : Rp K S v d) : Q v H := p v S H (Grow.refl e) r
theorem Pure.tup {ds : List PyData} {xs : List V} {Q : VK} (p : Pure K S H (.tuple ds) Q) (e : Ex S H) (r : RpAll K S xs ds) : NewT H xs Q := fun a ob ha hn => by
  have gr : Grow K S H (upd S a (.frz ob (.tup xs))) (upd H a (.frz ob (.tup xs))) := Grow.new e ha
  exact p (.ref a) _ _ gr (.tup (PlT.of upd_same hn) (r.mono gr.ss))
theorem Pure.lst {ds : List PyData} {xs : List V} {Q : VK} (p : Pure K S H (.list ds) Q) (e : Ex S H) (r : RpAll K S xs ds) : ∀ a, H a = none → Q (.ref a) (upd H a (.lst xs)) := fun a ha => by
  have gr : Grow K S H (upd S a (.lst xs)) (upd H a (.lst xs)) := Grow.new e ha
  exact p (.ref a) _ _ gr (.lst upd_same (r.mono gr.ss))
theorem Pure.bl {b : Bool} {Q : VK} (p : Pure K S H (.bool b) Q) (e : Ex S H) : Q (.bl b) H := p.same e (.bl b)
theorem Pure.int {i : Int} {Q : VK} (p : Pure K S H (.int i) Q) (e : Ex S H) : Q (.int i) H := p.same e (.int i)
theorem Pure.str {x : Str} {Q : VK} (p : Pure K S H (.str x) Q) (e : Ex S H) (h : TxOk x) : Q (.str x) H := p.same e (.str x h)

/-! ### arithmetic -/
def gAdd : PyData → PyData → Option PyData
  | .int a, .int b => some (.int (a + b))
  | .str a, .str b => if a.length + b.length ≤ sizeLine then some (.str (a ++ b)) else none
  | .list a, .list b => if a.length + b.length ≤ sizeLine then some (.list (a ++ b)) else none
  | .tuple a, .tuple b => if a.length + b.length ≤ sizeLine then some (.tuple (a ++ b)) else none
  | _, _ => none
theorem o_add : Op2 X (binaryOp .Add) gAdd := by
  refine ⟨_, ((op_add.or op_add_str).or op_cat).or op_catF, fun S H x y dx dy dz Q e rx ry eq p => ?_⟩
  unfold gAdd at eq
  split at eq
  · cases eq
    rw [rx.int_inv, ry.int_inv]
    exact .inl (.inl (.inl ⟨_, _, rfl, rfl, p.int e⟩))
  · split at eq
    · rename_i h
      cases eq
      obtain ⟨rfl, h1⟩ := rx.str_inv
      obtain ⟨rfl, h2⟩ := ry.str_inv
      exact .inl (.inl (.inr ⟨_, _, rfl, rfl, h, p.str e (h1.append h2 h)⟩))
    · cases eq
  · split at eq
    · rename_i h
      cases eq
      obtain ⟨a, xs, rfl, h1, r1⟩ := rx.lst_inv
      obtain ⟨b, ys, rfl, h2, r2⟩ := ry.lst_inv
      exact .inl (.inr ⟨a, b, xs, ys, rfl, rfl, e _ _ h1, e _ _ h2, by rw [r1.length, r2.length]; exact h, p.lst e (r1.append r2)⟩)
    · cases eq
  · split at eq
    · rename_i h
      cases eq
      obtain ⟨a, xs, rfl, h1, r1⟩ := rx.tup_invP
      obtain ⟨b, ys, rfl, h2, r2⟩ := ry.tup_invP
      refine .inr ⟨a, b, xs, ys, rfl, rfl, e.t h1.sq, e.t h2.sq, by rw [r1.length, r2.length]; exact h, fun z => ?_, fun z z2 => ?_, fun _ _ => p.tup e (r1.append r2)⟩
      · subst z; cases r1; exact p.same e (.tup h2 r2)
      · subst z2; cases r2; rw [List.append_nil] at p; exact p.same e (.tup h1 r1)
    · cases eq
  · cases eq
def gSub : PyData → PyData → Option PyData
  | .int a, .int b => some (.int (a - b))
  | _, _ => none
theorem o_sub : Op2 X (binaryOp .Sub) gSub := by
  refine ⟨_, op_sub, fun S H x y dx dy dz Q e rx ry eq p => ?_⟩
  unfold gSub at eq
  split at eq
  · cases eq
    rw [rx.int_inv, ry.int_inv]
    exact ⟨_, _, rfl, rfl, p.int e⟩
  · cases eq
def gMul : PyData → PyData → Option PyData
  | .int a, .int b => if (-(2 ^ 64) < a ∧ a < 2 ^ 64) ∨ (-(2 ^ 64) < b ∧ b < 2 ^ 64) then some (.int (a * b)) else none
  | .list a, .int b => if -(2 ^ 63) ≤ b ∧ b < 2 ^ 63 ∧ a.length * b.toNat ≤ sizeLine then some (.list (List.replicate b.toNat a).flatten) else none
  | .tuple a, .int b => if a ≠ [] ∧ 2 ≤ b ∧ b ≤ 1000 ∧ a.length ≤ 1000 then some (.tuple (List.replicate b.toNat a).flatten) else none
  | _, _ => none
theorem RpAll.rep {xs : List V} {ds : List PyData} (h : RpAll K S xs ds) : ∀ n : Nat, RpAll K S (List.replicate n xs).flatten (List.replicate n ds).flatten
  | 0 => .nil
  | n + 1 => by rw [List.replicate_succ, List.replicate_succ, List.flatten_cons, List.flatten_cons]; exact h.append (RpAll.rep h n)
theorem RpAll.ne {xs : List V} {ds : List PyData} (h : RpAll K S xs ds) (hd : ds ≠ []) : xs ≠ [] := fun e => by subst e; cases h; exact hd rfl
theorem o_mul : Op2 X (binaryOp .Mult) gMul := by
  refine ⟨_, (op_mul.or op_rep).or op_repF, fun S H x y dx dy dz Q e rx ry eq p => ?_⟩
  unfold gMul at eq
  split at eq
  · split at eq
    · rename_i h
      cases eq
      rw [rx.int_inv, ry.int_inv]
      exact .inl (.inl ⟨_, _, rfl, rfl, h, p.int e⟩)
    · cases eq
  · split at eq
    · rename_i h
      cases eq
      obtain ⟨a, xs, rfl, h1, r1⟩ := rx.lst_inv
      rw [ry.int_inv]
      exact .inl (.inr ⟨a, _, xs, rfl, rfl, e _ _ h1, h.1, h.2.1, by rw [r1.length]; exact h.2.2, p.lst e (r1.rep _)⟩)
    · cases eq
  · split at eq
    · rename_i h
      cases eq
      obtain ⟨a, xs, rfl, h1, r1⟩ := rx.tup_inv
      rw [ry.int_inv]
      exact .inr ⟨a, _, xs, rfl, rfl, e.t h1, r1.ne h.1, h.2.1, h.2.2.1, by rw [r1.length]; exact h.2.2.2, p.tup e (r1.rep _)⟩
    · cases eq
  · cases eq
def gMod : PyData → PyData → Option PyData
  | .int a, .int b => if 0 < b then some (.int (a % b)) else none
  | _, _ => none
theorem o_mod : Op2 X (binaryOp .Mod) gMod := by
  refine ⟨_, op_mod, fun S H x y dx dy dz Q e rx ry eq p => ?_⟩
  unfold gMod at eq
  split at eq
  · split at eq
    · rename_i h
      cases eq
      rw [rx.int_inv, ry.int_inv]
      exact ⟨_, _, rfl, rfl, h, p.int e⟩
    · cases eq
  · cases eq
def gDiv : PyData → PyData → Option PyData
  | .int a, .int b => if 0 < b ∧ b < 1073741824 then some (.int (a / b)) else none
  | _, _ => none
theorem o_div : Op2 X (binaryOp .FloorDiv) gDiv := by
  refine ⟨_, op_fdiv, fun S H x y dx dy dz Q e rx ry eq p => ?_⟩
  unfold gDiv at eq
  split at eq
  · split at eq
    · rename_i h
      cases eq
      rw [rx.int_inv, ry.int_inv]
      exact ⟨_, _, rfl, rfl, h, p.int e⟩
    · cases eq
  · cases eq
def gPow : PyData → PyData → Option PyData
  | .int a, .int b => if 0 ≤ b ∧ b ≤ 1000000 ∧ a.natAbs < 2 ^ 64 then some (.int (a ^ b.toNat)) else none
  | _, _ => none
theorem o_pow : Op2 X (binaryOp .Pow) gPow := by
  refine ⟨_, op_pow, fun S H x y dx dy dz Q e rx ry eq p => ?_⟩
  unfold gPow at eq
  split at eq
  · split at eq
    · rename_i h
      cases eq
      rw [rx.int_inv, ry.int_inv]
      exact ⟨_, _, rfl, rfl, h, p.int e⟩
    · cases eq
  · cases eq
/-! ### order of ints -/
def gCmpI (f : Int → Int → Bool) : PyData → PyData → Option PyData
  | .int a, .int b => some (.bool (f a b))
  | _, _ => none
theorem o_cmpI {op : CmpOp} {f : Int → Int → Bool} (h : OpR X (compareOp op) (rI0 fun i j => .bl (f i j))) : Op2 X (compareOp op) (gCmpI f) := by
  refine ⟨_, h, fun S H x y dx dy dz Q e rx ry eq p => ?_⟩
  unfold gCmpI at eq
  split at eq
  · cases eq
    rw [rx.int_inv, ry.int_inv]
    exact ⟨_, _, rfl, rfl, p.bl e⟩
  · cases eq
def gLtS : PyData → PyData → Option PyData
  | .str a, .str b => some (.bool (decide (a.cps.toList < b.cps.toList)))
  | _, _ => none
def gLt : PyData → PyData → Option PyData := orG (gCmpI fun i j => decide (i < j)) gLtS
theorem o_lt : Op2 X (compareOp .Lt) gLt := by
  refine (o_cmpI op_lt).or ⟨_, op_lt_str, fun S H x y dx dy dz Q e rx ry eq p => ?_⟩
  unfold gLtS at eq
  split at eq
  · cases eq
    obtain ⟨rfl, h1⟩ := rx.str_inv
    obtain ⟨rfl, h2⟩ := ry.str_inv
    exact ⟨_, _, rfl, rfl, p.bl e⟩
  · cases eq
def gLe : PyData → PyData → Option PyData := gCmpI fun i j => decide (i ≤ j)
def gGt : PyData → PyData → Option PyData := gCmpI fun i j => decide (j < i)
def gGe : PyData → PyData → Option PyData := gCmpI fun i j => decide (j ≤ i)
theorem o_le : Op2 X (compareOp .LtE) gLe := o_cmpI op_le
theorem o_gt : Op2 X (compareOp .Gt) gGt := o_cmpI op_gt
theorem o_ge : Op2 X (compareOp .GtE) gGe := o_cmpI op_ge
/-! ### is None -/
def gIsN : PyData → PyData → Option PyData
  | .none, .none => some (.bool true)
  | _, .none => some (.bool false)
  | _, _ => none
def gNotN : PyData → PyData → Option PyData
  | .none, .none => some (.bool false)
  | _, .none => some (.bool true)
  | _, _ => none
theorem Rp.ne_non {v : V} {d : PyData} (h : Rp K S v d) (hd : d ≠ .none) : v ≠ .non := fun e => by subst e; cases h; exact hd rfl
theorem o_is : Op2 X (compareOp .Is) gIsN := by
  refine ⟨_, op_isN, fun S H x y dx dy dz Q e rx ry eq p => ?_⟩
  unfold gIsN at eq
  split at eq
  · cases eq
    rw [rx.non_inv, ry.non_inv]
    exact ⟨rfl, p.bl e⟩
  · rename_i hn
    cases eq
    rw [ry.non_inv, decide_eq_false (rx.ne_non fun z => hn z)]
    exact ⟨rfl, p.bl e⟩
  · cases eq
theorem o_isnot : Op2 X (compareOp .IsNot) gNotN := by
  refine ⟨_, op_notN, fun S H x y dx dy dz Q e rx ry eq p => ?_⟩
  unfold gNotN at eq
  split at eq
  · cases eq
    rw [rx.non_inv, ry.non_inv]
    exact ⟨rfl, p.bl e⟩
  · rename_i hn
    cases eq
    rw [ry.non_inv, decide_eq_false (rx.ne_non fun z => hn z)]
    exact ⟨rfl, p.bl e⟩
  · cases eq
/-! ### equal -/
mutual
def noDict : PyData → Bool
  | .dict _ => false
  | .list xs => noDicts xs
  | .tuple xs => noDicts xs
  | _ => true
def noDicts : List PyData → Bool
  | [] => true
  | x :: xs => noDict x && noDicts xs
end
mutual
theorem Rp.dp : ∀ {v : V} {d : PyData}, Rp K S v d → noDict d = true → Dp K S v d ∧ d.canLay0 = true
  | _, _, .non, _ => ⟨.non, by simp [PyData.canLay0]⟩
  | _, _, .bl b, _ => ⟨.bl b, by simp [PyData.canLay0]⟩
  | _, _, .int i, _ => ⟨.int i, by simp [PyData.canLay0]⟩
  | _, _, .str x h, _ => ⟨.str x, by simpa [PyData.canLay0] using h.2⟩
  | _, _, .lst h r, n => by
    have q := RpAll.dp r (by simpa [noDict] using n)
    exact ⟨.lst (SqL.of h) q.1, by simpa [PyData.canLay0] using q.2⟩
  | _, _, .tup h r, n => by
    have q := RpAll.dp r (by simpa [noDict] using n)
    exact ⟨.tup h.sq q.1, by simpa [PyData.canLay0] using q.2⟩
  | _, _, .dct h r, n => by simp [noDict] at n
theorem RpAll.dp : ∀ {vs : List V} {ds : List PyData}, RpAll K S vs ds → noDicts ds = true → DpAll K S vs ds ∧ PyData.canLayAll0 ds = true
  | _, _, .nil, _ => ⟨.nil, by simp [PyData.canLayAll0]⟩
  | _, _, .cons h r, n => by
    simp only [noDicts, Bool.and_eq_true] at n
    have q1 := Rp.dp h n.1
    have q2 := RpAll.dp r n.2
    exact ⟨.cons q1.1 q2.1, by simp [PyData.canLayAll0, q1.2, q2.2]⟩
end
mutual
theorem Dp.mono' {S' : Hp} (e : Ex S S') : ∀ {v : V} {d : PyData}, Dp K S v d → Dp K S' v d
  | _, _, .non => .non
  | _, _, .bl b => .bl b
  | _, _, .int i => .int i
  | _, _, .str x => .str x
  | _, _, .lst h r => .lst (e.l h) (DpAll.mono' e r)
  | _, _, .tup h r => .tup (e.t h) (DpAll.mono' e r)
theorem DpAll.mono' {S' : Hp} (e : Ex S S') : ∀ {vs : List V} {ds : List PyData}, DpAll K S vs ds → DpAll K S' vs ds
  | _, _, .nil => .nil
  | _, _, .cons h r => .cons (Dp.mono' e h) (DpAll.mono' e r)
end
def simple (d : PyData) : Bool := noDict d && decide (d.depth ≤ 64)
theorem Rp.eqd {v : V} {d : PyData} (h : Rp K S v d) (e : Ex S H) (hs : simple d = true) : Dp K H v d ∧ SeqAt.shaped d = true := by
  simp only [simple, Bool.and_eq_true] at hs
  obtain ⟨q1, q2⟩ := h.dp hs.1
  exact ⟨Dp.mono' e q1, by simp only [SeqAt.shaped, q2, hs.2, Bool.and_self]⟩
def gEq (a b : PyData) : Option PyData := if simple a = true ∧ simple b = true then some (.bool (PyData.eqv a b)) else none
def gNe (a b : PyData) : Option PyData := if simple a = true ∧ simple b = true then some (.bool (!PyData.eqv a b)) else none
theorem o_eq (hu : X.A.units + 64 < cLine) : Op2 X (compareOp .Eq) gEq := by
  refine ⟨_, op_eqD hu, fun S H x y dx dy dz Q e rx ry eq p => ?_⟩
  unfold gEq at eq
  split at eq
  · rename_i h
    cases eq
    obtain ⟨a1, a2⟩ := rx.eqd e h.1
    obtain ⟨b1, b2⟩ := ry.eqd e h.2
    exact ⟨dx, dy, a1, b1, a2, b2, p.bl e⟩
  · cases eq
theorem o_ne (hu : X.A.units + 64 < cLine) : Op2 X (compareOp .NotEq) gNe := by
  refine ⟨_, op_neD hu, fun S H x y dx dy dz Q e rx ry eq p => ?_⟩
  unfold gNe at eq
  split at eq
  · rename_i h
    cases eq
    obtain ⟨a1, a2⟩ := rx.eqd e h.1
    obtain ⟨b1, b2⟩ := ry.eqd e h.2
    exact ⟨dx, dy, a1, b1, a2, b2, p.bl e⟩
  · cases eq
end
end DL
namespace DL
open PySem L2
section
variable {X : Cx} {K : PySem.W.Frag} {S H : Hp}
/-! ### in -/
def flat : PyData → Bool
  | .none | .bool _ | .int _ | .str _ => true
  | _ => false
theorem Rp.flat {v : V} {d : PyData} (h : Rp K S v d) (hd : DL.flat d = true) : flatV v = true := by cases h <;> first | rfl | cases hd
theorem RpAll.flat : ∀ {vs : List V} {ds : List PyData}, RpAll K S vs ds → ds.all DL.flat = true → vs.all flatV = true
  | _, _, .nil, _ => rfl
  | _, _, .cons h r, n => by
    simp only [List.all_cons, Bool.and_eq_true] at n ⊢
    exact ⟨h.flat n.1, RpAll.flat r n.2⟩
theorem Rp.eqV {v w : V} {d e : PyData} (h : Rp K S v d) (g : Rp K S w e) (hd : DL.flat d = true) (he : DL.flat e = true) : L2.eqV v w = PyData.eqv d e := by
  cases h <;> cases g <;> simp_all [L2.eqV, PyData.eqv, DL.flat]
theorem RpAll.inV {w : V} {e : PyData} (g : Rp K S w e) (he : DL.flat e = true) : ∀ {vs : List V} {ds : List PyData}, RpAll K S vs ds → ds.all DL.flat = true → L2.inV w vs = ds.any fun z => PyData.eqv z e
  | _, _, .nil, _ => rfl
  | _, _, .cons h r, n => by
    simp only [List.all_cons, Bool.and_eq_true] at n
    have q := RpAll.inV g he r n.2
    unfold L2.inV at q ⊢
    rw [List.any_cons, List.any_cons, q, h.eqV g n.1 he]
/-- s in t -/
def inS (a b : Str) : Bool := match a.cps.toList with
  | [c] => decide (c ∈ b.cps.toList)
  | _ => !(Builtin.Str.occurrences b a 0 b.length 1).isEmpty
def gInL (x : PyData) (ds : List PyData) : Option Bool := if DL.flat x = true ∧ ds.all DL.flat = true then some (ds.any fun z => PyData.eqv z x) else none
def gInD (x : PyData) (ds : List PyData) : Option Bool := if simple x = true ∧ simple (.list ds) = true then some (ds.any fun z => PyData.eqv z x) else none
def gIn : PyData → PyData → Option PyData
  | .str a, .str b => some (.bool (inS a b))
  | x, .tuple ds => (gInL x ds).map .bool
  | x, .list ds => match gInL x ds with
    | some b => some (.bool b)
    | none => (gInD x ds).map .bool
  | _, _ => none
def gNotIn : PyData → PyData → Option PyData
  | .str a, .str b => some (.bool (!inS a b))
  | x, .tuple ds => (gInL x ds).map fun b => .bool (!b)
  | x, .list ds => match gInL x ds with
    | some b => some (.bool (!b))
    | none => (gInD x ds).map fun b => .bool (!b)
  | _, _ => none
theorem one_cps {a : Str} {c : Nat} (h : a.cps.toList = [c]) : a = ⟨#[c]⟩ := by
  obtain ⟨x⟩ := a
  have : x = #[c] := by rw [← Array.toArray_toList (xs := x)]; simp at h; simp [h]
  rw [this]
theorem gInL_some {x : PyData} {ds : List PyData} {b : Bool} (h : gInL x ds = some b) : DL.flat x = true ∧ ds.all DL.flat = true ∧ b = ds.any fun z => PyData.eqv z x := by
  unfold gInL at h
  split at h
  · rename_i q; cases h; exact ⟨q.1, q.2, rfl⟩
  · cases h
theorem gInD_some {x : PyData} {ds : List PyData} {b : Bool} (h : gInD x ds = some b) : simple x = true ∧ simple (.list ds) = true ∧ b = ds.any fun z => PyData.eqv z x := by
  unfold gInD at h
  split at h
  · rename_i q; cases h; exact ⟨q.1, q.2, rfl⟩
  · cases h
theorem o_in (hu : X.A.units + 65 < cLine) : Op2 X (compareOp .In) gIn := by
  refine ⟨_, (((op_in_sign.or op_in_str).or op_in_seq).or (op_inD hu)), fun S H x y dx dy dz Q e rx ry eq p => ?_⟩
  unfold gIn at eq
  split at eq
  · cases eq
    obtain ⟨rfl, h1⟩ := rx.str_inv
    obtain ⟨rfl, h2⟩ := ry.str_inv
    unfold inS at p
    split at p
    · rename_i c hc
      rw [one_cps hc]
      exact .inl (.inl (.inl ⟨c, _, rfl, rfl, p.bl e⟩))
    · exact .inl (.inl (.inr ⟨_, _, rfl, rfl, p.bl e⟩))
  · obtain ⟨b, hb, rfl⟩ := Option.map_eq_some_iff.mp eq
    obtain ⟨h1, h2, rfl⟩ := gInL_some hb
    obtain ⟨a, xs, rfl, g1, r1⟩ := ry.tup_inv
    refine .inl (.inr ⟨a, xs, rfl, .inr (e.t g1), rx.flat h1, r1.flat h2, ?_⟩)
    rw [r1.inV rx h1 h2]
    exact p.bl e
  · split at eq
    · rename_i b hb
      cases eq
      obtain ⟨h1, h2, rfl⟩ := gInL_some hb
      obtain ⟨a, xs, rfl, g1, r1⟩ := ry.lst_inv
      refine .inl (.inr ⟨a, xs, rfl, .inl (e.l (SqL.of g1)), rx.flat h1, r1.flat h2, ?_⟩)
      rw [r1.inV rx h1 h2]
      exact p.bl e
    · obtain ⟨b, hb, rfl⟩ := Option.map_eq_some_iff.mp eq
      obtain ⟨h1, h2, rfl⟩ := gInD_some hb
      obtain ⟨a1, a2⟩ := rx.eqd e h1
      obtain ⟨b1, b2⟩ := ry.eqd e h2
      exact .inr ⟨_, _, a1, b1, a2, b2, p.bl e⟩
  · cases eq
theorem o_notin (hu : X.A.units + 65 < cLine) : Op2 X (compareOp .NotIn) gNotIn := by
  refine ⟨_, (((op_notIn_sign.or op_notin_str).or op_notIn_seq).or (op_notInD hu)), fun S H x y dx dy dz Q e rx ry eq p => ?_⟩
  unfold gNotIn at eq
  split at eq
  · cases eq
    obtain ⟨rfl, h1⟩ := rx.str_inv
    obtain ⟨rfl, h2⟩ := ry.str_inv
    unfold inS at p
    split at p
    · rename_i c hc
      rw [one_cps hc]
      exact .inl (.inl (.inl ⟨c, _, rfl, rfl, p.bl e⟩))
    · exact .inl (.inl (.inr ⟨_, _, rfl, rfl, p.bl e⟩))
  · obtain ⟨b, hb, rfl⟩ := Option.map_eq_some_iff.mp eq
    obtain ⟨h1, h2, rfl⟩ := gInL_some hb
    obtain ⟨a, xs, rfl, g1, r1⟩ := ry.tup_inv
    refine .inl (.inr ⟨a, xs, rfl, .inr (e.t g1), rx.flat h1, r1.flat h2, ?_⟩)
    rw [r1.inV rx h1 h2]
    exact p.bl e
  · split at eq
    · rename_i b hb
      cases eq
      obtain ⟨h1, h2, rfl⟩ := gInL_some hb
      obtain ⟨a, xs, rfl, g1, r1⟩ := ry.lst_inv
      refine .inl (.inr ⟨a, xs, rfl, .inl (e.l (SqL.of g1)), rx.flat h1, r1.flat h2, ?_⟩)
      rw [r1.inV rx h1 h2]
      exact p.bl e
    · obtain ⟨b, hb, rfl⟩ := Option.map_eq_some_iff.mp eq
      obtain ⟨h1, h2, rfl⟩ := gInD_some hb
      obtain ⟨a1, a2⟩ := rx.eqd e h1
      obtain ⟨b1, b2⟩ := ry.eqd e h2
      exact .inr ⟨_, _, a1, b1, a2, b2, p.bl e⟩
  · cases eq
/-! ### built-ins -/
def gLen : List PyData → Option PyData
  | [.str x] => some (.int x.length)
  | [.list xs] => some (.int xs.length)
  | [.tuple xs] => some (.int xs.length)
  | _ => none
theorem RpAll.one_inv {xs : List V} {d : PyData} (h : RpAll K S xs [d]) : ∃ v, xs = [v] ∧ Rp K S v d := by
  cases h with
  | cons h r => cases r; exact ⟨_, rfl, h⟩
theorem RpKv.length : ∀ {vs : List (Key × V)} {ds : List (PyData × PyData)}, RpKv K S vs ds → vs.length = ds.length
  | _, _, .nil => rfl
  | _, _, .cons _ r => by simp [RpKv.length r]
theorem c_len : CallD X (.builtin "len") gLen := by
  refine ⟨_, call_len, fun S H xs ds dz Q e rx eq p => ?_⟩
  unfold gLen at eq
  split at eq
  · cases eq
    obtain ⟨v, rfl, r⟩ := rx.one_inv
    obtain ⟨rfl, h1⟩ := r.str_inv
    exact ⟨_, _, rfl, ⟨h1.1, rfl⟩, p.int e⟩
  · cases eq
    obtain ⟨v, rfl, r⟩ := rx.one_inv
    obtain ⟨a, xs, rfl, g1, r1⟩ := r.lst_inv
    exact ⟨_, _, rfl, .inl ⟨xs, e.l (SqL.of g1), rfl⟩, by rw [r1.length]; exact p.int e⟩
  · cases eq
    obtain ⟨v, rfl, r⟩ := rx.one_inv
    obtain ⟨a, xs, rfl, g1, r1⟩ := r.tup_inv
    exact ⟨_, _, rfl, .inr ⟨xs, e.t g1, rfl⟩, by rw [r1.length]; exact p.int e⟩
  · cases eq
def bools : List PyData → Option (List Bool)
  | [] => some []
  | .bool b :: r => (bools r).map (b :: ·)
  | _ => none
theorem RpAll.bools : ∀ {vs : List V} {ds : List PyData} {bs : List Bool}, RpAll K S vs ds → DL.bools ds = some bs → vs = bs.map V.bl
  | _, _, _, .nil, h => by cases h; rfl
  | _, _, _, .cons h r, q => by
    cases h with
    | bl b =>
      obtain ⟨bs', h1, rfl⟩ := Option.map_eq_some_iff.mp (show (DL.bools _).map _ = _ from q)
      rw [RpAll.bools r h1]; rfl
    | _ => cases q
def gAll : List PyData → Option PyData
  | [.list ds] => (bools ds).map fun bs => .bool (bs.all id)
  | _ => none
def gAny : List PyData → Option PyData
  | [.list ds] => (bools ds).map fun bs => .bool (bs.any id)
  | _ => none
theorem c_all (hc : X.calm = true) : CallD X (.builtin "all") gAll := by
  refine ⟨_, cr_all hc, fun S H xs ds dz Q e rx eq p => ?_⟩
  unfold gAll at eq
  split at eq
  · obtain ⟨bs, h1, rfl⟩ := Option.map_eq_some_iff.mp eq
    obtain ⟨v, rfl, r⟩ := rx.one_inv
    obtain ⟨a, xs, rfl, g1, r1⟩ := r.lst_inv
    rw [r1.bools h1] at g1
    exact ⟨a, bs, rfl, e.l (SqL.of g1), p.bl e⟩
  · cases eq
theorem c_any (hc : X.calm = true) : CallD X (.builtin "any") gAny := by
  refine ⟨_, cr_any hc, fun S H xs ds dz Q e rx eq p => ?_⟩
  unfold gAny at eq
  split at eq
  · obtain ⟨bs, h1, rfl⟩ := Option.map_eq_some_iff.mp eq
    obtain ⟨v, rfl, r⟩ := rx.one_inv
    obtain ⟨a, xs, rfl, g1, r1⟩ := r.lst_inv
    rw [r1.bools h1] at g1
    exact ⟨a, bs, rfl, e.l (SqL.of g1), p.bl e⟩
  · cases eq
def gTuple : List PyData → Option PyData
  | [.list ds] => some (.tuple ds)
  | [.tuple ds] => some (.tuple ds)
  | _ => none
theorem c_tuple : CallD X (.type "tuple") gTuple := by
  refine ⟨_, call_tupleF, fun S H xs ds dz Q e rx eq p => ?_⟩
  unfold gTuple at eq
  split at eq
  · cases eq
    obtain ⟨v, rfl, r⟩ := rx.one_inv
    obtain ⟨a, xs, rfl, g1, r1⟩ := r.lst_inv
    exact ⟨a, xs, rfl, .inl ⟨e.l (SqL.of g1), p.tup e r1⟩⟩
  · cases eq
    obtain ⟨v, rfl, r⟩ := rx.one_inv
    obtain ⟨a, xs, rfl, g1, r1⟩ := r.tup_invP
    exact ⟨a, xs, rfl, .inr ⟨e.t g1.sq, p.same e (.tup g1 r1)⟩⟩
  · cases eq
def gList : List PyData → Option PyData
  | [.list ds] => some (.list ds)
  | [.tuple ds] => some (.list ds)
  | _ => none
theorem c_list : CallD X (.type "list") gList := by
  refine ⟨_, call_list_of, fun S H xs ds dz Q e rx eq p => ?_⟩
  unfold gList at eq
  split at eq
  · cases eq
    obtain ⟨v, rfl, r⟩ := rx.one_inv
    obtain ⟨a, xs, rfl, g1, r1⟩ := r.lst_inv
    exact ⟨a, xs, rfl, .inl (e.l (SqL.of g1)), p.lst e r1⟩
  · cases eq
    obtain ⟨v, rfl, r⟩ := rx.one_inv
    obtain ⟨a, xs, rfl, g1, r1⟩ := r.tup_inv
    exact ⟨a, xs, rfl, .inr (e.t g1), p.lst e r1⟩
  · cases eq
def gInt : List PyData → Option PyData
  | [.int i] => some (.int i)
  | [.bool b] => some (.int (if b then 1 else 0))
  | _ => none
theorem c_int : CallD X (.type "int") gInt := by
  refine ⟨_, call_int1, fun S H xs ds dz Q e rx eq p => ?_⟩
  unfold gInt at eq
  split at eq
  · cases eq
    obtain ⟨v, rfl, r⟩ := rx.one_inv
    rw [r.int_inv]
    exact .inl ⟨_, rfl, p.int e⟩
  · cases eq
    obtain ⟨v, rfl, r⟩ := rx.one_inv
    rw [r.bl_inv]
    exact .inr ⟨_, rfl, p.int e⟩
  · cases eq
/-! ### a subscript, a slice -/
theorem RpAll.atI {xs : List V} {ds : List PyData} {i : Int} {d : PyData} (h : RpAll K S xs ds) (q : L2.atI ds i = some d) : ∃ v, L2.atI xs i = some v ∧ Rp K S v d := by
  unfold L2.atI at q ⊢
  rw [h.length]
  obtain ⟨j, h1, h2⟩ := Option.bind_eq_some_iff.mp q
  obtain ⟨v, h3, h4⟩ := h.get' h2
  exact ⟨v, Option.bind_eq_some_iff.mpr ⟨j, h1, h3⟩, h4⟩
def gIx : PyData → PyData → Option PyData
  | .list ds, .int i => L2.atI ds i
  | .tuple ds, .int i => L2.atI ds i
  | .str z, .int i => (L2.atI z.cps.toList i).map fun c => .str ⟨#[c]⟩
  | _, _ => none
def IxD (X : Cx) (g : PyData → PyData → Option PyData) : Prop :=
  ∃ r : R2, IxR X r ∧ ∀ S H x y dx dy dz Q, Ex S H → Rp X.K S x dx → Rp X.K S y dy → g dx dy = some dz → Pure X.K S H dz Q → r x y H Q
theorem atI_mem {α : Type} {xs : List α} {i : Int} {c : α} (h : L2.atI xs i = some c) : c ∈ xs := by
  unfold L2.atI at h
  obtain ⟨j, h1, h2⟩ := Option.bind_eq_some_iff.mp h
  exact List.mem_of_getElem? h2
theorem i_seq : IxD X gIx := by
  refine ⟨_, ix_seq, fun S H x y dx dy dz Q e rx ry eq p => ?_⟩
  unfold gIx at eq
  split at eq
  · obtain ⟨a, xs, rfl, g1, r1⟩ := rx.lst_inv
    obtain ⟨v, h1, h2⟩ := r1.atI eq
    rw [ry.int_inv]
    exact .inl ⟨a, xs, _, v, rfl, rfl, e.l (SqL.of g1), h1, p.same e h2⟩
  · obtain ⟨a, xs, rfl, g1, r1⟩ := rx.tup_inv
    obtain ⟨v, h1, h2⟩ := r1.atI eq
    rw [ry.int_inv]
    exact .inr (.inl ⟨a, xs, _, v, rfl, rfl, e.t g1, h1, p.same e h2⟩)
  · obtain ⟨c, hc, rfl⟩ := Option.map_eq_some_iff.mp eq
    obtain ⟨rfl, h1⟩ := rx.str_inv
    rw [ry.int_inv]
    exact .inr (.inr ⟨_, _, c, rfl, rfl, h1.1, hc, p.str e (h1.one (atI_mem hc))⟩)
  · cases eq
variable {W : WX} {a b : Expr} {fa fb : M PyData} {pos p2 : Pos}
theorem de_ix {g : PyData → PyData → Option PyData} (hi : IxD X g) (ha : DE X W a fa) (hb : DE X W b fb) (hs : PlainIx b := by exact fun _ _ => rfl) : DE X W (.Subscript a b pos) (fa >>= fun x => fb >>= fun y => M.lift (g x y)) := by
  obtain ⟨r, h1, h2⟩ := hi
  exact PE_mono (pe_ix h1 ha hb hs) fun σ H Q h => two (a := a) (b := b) h2 h
def cutD (ds : List PyData) (lo hi : Option Int) : List PyData := (ds.drop (HT.sIx ds.length 0 lo)).take (HT.sIx ds.length ds.length hi - HT.sIx ds.length 0 lo)
theorem RpAll.cut {xs : List V} {ds : List PyData} (h : RpAll K S xs ds) (lo hi : Option Int) : RpAll K S (cutV xs lo hi) (cutD ds lo hi) := by
  unfold cutV cutD
  rw [h.length]
  exact (h.drop _).take _
def gSl (d : PyData) (lo hi : Option Int) : Option PyData := match d with
  | .list ds => some (.list (cutD ds lo hi))
  | .tuple ds => some (.tuple (cutD ds lo hi))
  | .str z => some (.str (cutS z lo hi))
  | _ => none
def tDO (X : Cx) (W : WX) (f : M (Option Int)) : TO := fun σ H Q => ∃ F P S env, RelE X.K X.mg F P S H σ env ∧
  Post X W F P S σ (f env) fun d e => ∀ S' H', RelE X.K X.mg F P S' H' σ e → Ex S S' → Q d H'
def DO (X : Cx) (W : WX) (e : Option Expr) (f : M (Option Int)) : Prop := PO X e (tDO X W f)
theorem PO_mono {e : Option Expr} {t t' : TO} (h : PO X e t) (m : ∀ σ H Q, t' σ H Q → t σ H Q) : PO X e t' := ⟨fun pins s σ H Q I q => h.run pins s σ H Q I (m σ H Q q)⟩
theorem do_none : DO X W none (pure none) := PO_mono po_none fun σ H Q ⟨F, P, S, env, rel, post⟩ => post S H rel (Ex.refl S)
def asI : PyData → Option Int
  | .int i => some i
  | _ => none
theorem asI_eq {d : PyData} {i : Int} (h : asI d = some i) : d = .int i := by
  cases d <;> simp [asI] at h
  subst h; rfl
theorem do_some (h : DE X W a fa) : DO X W (some a) (fa >>= fun d => M.lift (asI d) >>= fun i => pure (some i)) := by
  refine PO_mono (po_some h) fun σ H Q ⟨F, P, S, env, rel, post⟩ => ?_
  refine ⟨F, P, S, env, rel, Post.step post fun d e p v S1 H1 rel1 ex1 rp1 => ?_⟩
  obtain ⟨i, ei, p2⟩ := (Post.step p (R' := fun c e2 => _) fun c e2 q => q).lift
  have := asI_eq ei
  subst this
  exact ⟨i, rp1.int_inv, p2 S1 H1 rel1 ex1⟩
theorem de_sl {lo hi : Option Expr} {fl fh : M (Option Int)} (ha : DE X W a fa) (hl : DO X W lo fl) (hh : DO X W hi fh) :
    DE X W (.Subscript a (.Slice lo hi none p2) pos) (fa >>= fun x => fl >>= fun l => fh >>= fun h => M.lift (gSl x l h)) := by
  refine PE_mono (pe_slice ((sl_list.or sl_tupF).or sl_str) ha hl hh) fun σ H Q ⟨F, P, S, env, rel, post⟩ => ?_
  refine ⟨F, P, S, env, rel, Post.step post fun dx e1 p1 v S1 H1 rel1 ex1 rp1 => ?_⟩
  refine ⟨F, P, S1, e1, rel1, (Post.step p1 (R' := fun l e2 => _) fun l e2 q => q).mono ex1 fun l e2 p2 S2 H2 rel2 ex2 => ?_⟩
  refine ⟨F, P, S2, e2, rel2, (Post.step p2 (R' := fun l e2 => _) fun l e2 q => q).mono (ex1.trans ex2) fun h e3 p3 S3 H3 rel3 ex3 => ?_⟩
  obtain ⟨dz, e, q⟩ := p3.lift
  have q' : Pure X.K S3 H3 dz Q := fun w S4 H4 gr rw => q w S4 H4 (rel3.grow gr) (((ex1.trans ex2).trans ex3).trans gr.ss) rw
  have r := rp1.mono (ex2.trans ex3)
  unfold gSl at e
  split at e
  · cases e
    obtain ⟨a, xs, rfl, g1, r1⟩ := r.lst_inv
    exact .inl (.inl ⟨a, xs, rfl, rel3.sh.l (SqL.of g1), q'.lst rel3.sh (r1.cut l h)⟩)
  · cases e
    obtain ⟨a, xs, rfl, g1, r1⟩ := r.tup_invP
    refine .inl (.inr ⟨a, xs, rfl, rel3.sh.t g1.sq, fun z => ?_, fun _ => q'.tup rel3.sh (r1.cut l h)⟩)
    have e2 : cutD _ l h = _ := show (_ : List PyData) = _ by
      unfold cutD
      rw [← r1.length, z.1, z.2, List.drop_zero, Nat.sub_zero, r1.length, List.take_length]
    rw [e2] at q'
    exact q'.same rel3.sh (.tup g1 r1)
  · cases e
    obtain ⟨rfl, h1⟩ := r.str_inv
    exact .inr ⟨_, rfl, h1.1, q'.str rel3.sh (h1.cut l h)⟩
  · cases e
end
end DL
namespace DL
open PySem L2

/-! ### statements -/
inductive Fl where
  | nx | bk | ct
  | rt (d : PyData)
  | rl (ds : List PyData)
section
variable (X : Cx) (W : WX)
def FlOk (F : Hp) (P : List (Option Addr)) (S : Hp) (D : Ends) (e : Sl) : Fl → Prop
  | .nx => ∀ σ' S' H', RelE X.K X.mg F P S' H' σ' e → Ex S S' → D.nx σ' H'
  | .bk => ∀ σ' S' H', RelE X.K X.mg F P S' H' σ' e → Ex S S' → D.bk σ' H'
  | .ct => ∀ σ' S' H', RelE X.K X.mg F P S' H' σ' e → Ex S S' → D.ct σ' H'
  | .rt d => ∀ v σ' S' H', RelE X.K X.mg F P S' H' σ' e → Ex S S' → Rp X.K S' v d → D.rt v H'
  | .rl ds => ∀ p xs σ' S' H', RelE X.K X.mg F P S' H' σ' e → Ex S S' → H' p = some (.lst xs) → S' p = none → F p = none →
      (∀ (i : Nat) (b : Bool) (es : List PyData), e[i]? = some (some (.lis b es)) → σ'[i]? ≠ some (some (.ref p))) → RpAll X.K S' xs ds → D.rt (.ref p) H'
def PostS (F : Hp) (P : List (Option Addr)) (S : Hp) {α : Type} (o : Out α) (R : α → Sl → Prop) : Prop := match o with
  | .ok a e => R a e
  | .exc x e => ∀ σ' cls d S' H', RelE X.K X.mg F P S' H' σ' e → Ex S S' → RelX X.mg H' x cls d → W cls d σ' H'
  | .bad => False
def tDS (f : M Fl) : TS := fun D σ H => ∃ F P S env, RelE X.K X.mg F P S H σ env ∧ PostS X W F P S (f env) fun fl e => FlOk X F P S D e fl
def DS (st : Stmt) (f : M Fl) : Prop := PS X st (tDS X W f)
def DSs (sts : List Stmt) (f : M Fl) : Prop := PSs X sts (tDS X W f)
end
/-- where one stands: what is raised is taken, and passes the loops -/
structure Ctx (X : Cx) (W : WX) : Prop where
  tk : Takes X W
  po : PassesOwn (model X.prog X.w) X.A X.env X.xe
abbrev W0 : WX := fun _ _ _ _ => False

section
variable {X : Cx} {W : WX} {F : Hp} {P : List (Option Addr)} {S S' : Hp} {σ : St}
theorem PS_mono {st : Stmt} {t t' : TS} (h : PS X st t) (m : ∀ D σ H, t' D σ H → t D σ H) : PS X st t' := ⟨fun pins s σ H D I q => h.run pins s σ H D I (m D σ H q)⟩
theorem PSs_mono {st : List Stmt} {t t' : TS} (h : PSs X st t) (m : ∀ D σ H, t' D σ H → t D σ H) : PSs X st t' := ⟨fun pins s σ H D I q => h.run pins s σ H D I (m D σ H q)⟩
theorem FlOk.mono {D : Ends} {e : Sl} {fl : Fl} (h : FlOk X F P S D e fl) (ex : Ex S S') : FlOk X F P S' D e fl := by
  cases fl with
  | nx => exact fun σ' S2 H2 r x => h σ' S2 H2 r (ex.trans x)
  | bk => exact fun σ' S2 H2 r x => h σ' S2 H2 r (ex.trans x)
  | ct => exact fun σ' S2 H2 r x => h σ' S2 H2 r (ex.trans x)
  | rt d => exact fun v σ' S2 H2 r x => h v σ' S2 H2 r (ex.trans x)
  | rl ds => exact fun p xs σ' S2 H2 r x => h p xs σ' S2 H2 r (ex.trans x)
theorem PostS.mono {α : Type} {o : Out α} {R R' : α → Sl → Prop} (h : PostS X W F P S o R) (e : Ex S S') (hr : ∀ a e, R a e → R' a e) : PostS X W F P S' o R' := by
  cases o with
  | ok a s => exact hr a s h
  | exc x s => exact fun σ' cls d S2 H2 r ex q => h σ' cls d S2 H2 r (e.trans ex) q
  | bad => exact h
theorem PostS.step {α β : Type} {o : Out α} {k : α → M β} {R : β → Sl → Prop} {R' : α → Sl → Prop} (h : PostS X W F P S (o.then k) R) (hr : ∀ a e, PostS X W F P S (k a e) R → R' a e) : PostS X W F P S o R' := by
  cases o with
  | ok a s => exact hr a s h
  | exc x s => exact h
  | bad => exact h
/-- of an expression -/
theorem PostS.stepE {α β : Type} {o : Out α} {k : α → M β} {R : β → Sl → Prop} {R' : α → Sl → Prop} (h : PostS X W F P S (o.then k) R) (hr : ∀ a e, PostS X W F P S (k a e) R → R' a e) : Post X W F P S σ o R' := by
  cases o with
  | ok a s => exact hr a s h
  | exc x s => exact fun cls d S2 H2 r ex q => h σ cls d S2 H2 r ex q
  | bad => exact h
theorem PostS.lift {α : Type} {o : Option α} {e : Sl} {R : α → Sl → Prop} (h : PostS X W F P S (M.lift o e) R) : ∃ a, o = some a ∧ R a e := by
  cases o with
  | some a => exact ⟨a, rfl, h⟩
  | none => exact h.elim
def mSeq (f g : M Fl) : M Fl := f >>= fun fl => match fl with
  | .nx => g
  | r => pure r
theorem dss_nil : DSs X W [] (pure .nx) := PSs_mono pss_nil fun D σ H ⟨F, P, S, env, rel, post⟩ => post σ S H rel (Ex.refl S)
theorem dss_one {st : Stmt} {f : M Fl} (h : DS X W st f) : DSs X W [st] f := pss_one h
theorem dss_cons {st : Stmt} {rest : List Stmt} {f g : M Fl} (h1 : DS X W st f) (h2 : DSs X W rest g) : DSs X W (st :: rest) (mSeq f g) := by
  refine PSs_mono (pss_cons h1 h2) fun D σ H ⟨F, P, S, env, rel, post⟩ => ?_
  refine ⟨F, P, S, env, rel, PostS.step post fun fl e p => ?_⟩
  cases fl with
  | nx => exact fun σ' S' H' r x => ⟨F, P, S', e, r, p.mono x fun fl e q => q.mono x⟩
  | bk => exact p
  | ct => exact p
  | rt d => exact p
  | rl ds => exact p
theorem ds_pass {pos : Pos} : DS X W (.Pass pos) (pure .nx) := PS_mono ps_pass fun D σ H ⟨F, P, S, env, rel, post⟩ => post σ S H rel (Ex.refl S)
theorem ds_break {pos : Pos} : DS X W (.Break pos) (pure .bk) := PS_mono ps_break fun D σ H ⟨F, P, S, env, rel, post⟩ => post σ S H rel (Ex.refl S)
theorem ds_continue {pos : Pos} : DS X W (.Continue pos) (pure .ct) := PS_mono ps_continue fun D σ H ⟨F, P, S, env, rel, post⟩ => post σ S H rel (Ex.refl S)
theorem ds_expr {e : Expr} {f : M PyData} {pos : Pos} (h : DE X W e f) (hs : swapsWith e none pos.line X.env = pure false := by rfl) : DS X W (.Expr e pos) (f >>= fun _ => pure .nx) := by
  refine PS_mono (ps_expr h hs) fun D σ H ⟨F, P, S, env, rel, post⟩ => ?_
  exact ⟨F, P, S, env, rel, PostS.stepE post fun d e p v S1 H1 rel1 ex1 rp1 => p σ S1 H1 rel1 ex1⟩
theorem ds_ret {e : Expr} {f : M PyData} {pos : Pos} (h : DE X W e f) : DS X W (.Return (some e) pos) (f >>= fun d => pure (.rt d)) := by
  refine PS_mono (ps_ret h) fun D σ H ⟨F, P, S, env, rel, post⟩ => ?_
  exact ⟨F, P, S, env, rel, PostS.stepE post fun d e p v S1 H1 rel1 ex1 rp1 => p v σ S1 H1 rel1 ex1 rp1⟩
theorem ds_retN {pos : Pos} : DS X W (.Return none pos) (pure (.rt .none)) := PS_mono ps_retN fun D σ H ⟨F, P, S, env, rel, post⟩ => post .non σ S H rel (Ex.refl S) .non
/-- a new list is handed back as one's own -/
theorem ds_retL {es : List Expr} {f : M (List PyData)} {pos pos' : Pos} (h : DA X W es f) : DS X W (.Return (some (.List es pos')) pos) (f >>= fun ds => M.lift (szOk ds.length) >>= fun _ => pure (.rl ds)) := by
  refine PS_mono (ps_ret (pe_lst h)) fun D σ H ⟨F, P, S, env, rel, post⟩ => ?_
  refine ⟨F, P, S, env, rel, PostS.stepE post fun ds e p vs S1 H1 rel1 ex1 rp1 => ?_⟩
  obtain ⟨u, eu, q⟩ := (PostS.step p (R' := fun c e2 => _) fun c e2 q => q).lift
  refine ⟨by rw [rp1.length]; exact szOk_le eu, fun a ha => ?_⟩
  have ex : Ex H1 (upd H1 a (.lst vs)) := Ex.new ha
  have r2 : RelE X.K X.mg F P S1 (upd H1 a (.lst vs)) σ e := rel1.grow ⟨Ex.refl S1, rel1.sh.trans ex, ex.n, fun t => t.new ha trivial, id, fun a ps e => ⟨ps, ex a _ e⟩, fun b o e1 e2 => by rw [e1] at e2; cases e2⟩
  refine q a vs σ S1 _ r2 ex1 upd_same (rel1.sh.back ha) (rel1.fh.back ha) (fun i b es' he hs => ?_) rp1
  obtain ⟨p', xs', g1, g2, _⟩ := rel1.lis he
  rw [hs] at g1; cases g1
  rw [ha] at g2; cases g2
theorem ds_if {c : Expr} {a b : List Stmt} {t : M Bool} {f g : M Fl} {pos : Pos} (hc : DT X W c t) (ha : DSs X W a f) (hb : DSs X W b g) : DS X W (.If c a b pos) (t >>= fun x => if x = true then f else g) := by
  refine PS_mono (ps_if hc ha hb) fun D σ H ⟨F, P, S, env, rel, post⟩ => ?_
  refine ⟨F, P, S, env, rel, PostS.stepE post fun c e p S1 H1 rel1 ex1 => ?_⟩
  cases c with
  | true =>
    rw [if_pos rfl] at p ⊢
    exact ⟨F, P, S1, e, rel1, p.mono ex1 fun fl e q => q.mono ex1⟩
  | false =>
    rw [if_neg Bool.false_ne_true] at p ⊢
    exact ⟨F, P, S1, e, rel1, p.mono ex1 fun fl e q => q.mono ex1⟩
/-! ### stores -/
def M.setD (i : Nat) (d : PyData) : M Unit := fun e => .ok () (e.set i (some (.dat d)))
def M.setL (i : Nat) (ds : List PyData) : M Unit := fun e => .ok () (e.set i (some (.lis false ds)))
theorem ds_set {i : Nat} {x : Str} {e : Expr} {f : M PyData} {pos pos' : Pos} (hN : X.N.Nodup) (h : DE X W e f) (hi : X.N[i]? = some x := by rfl) (hx : Loc X.env.scope x := by first | exact Or.inl rfl | exact Or.inr rfl)
    (hs : swapsWith e (some (.Name x pos')) pos.line X.env = pure false := by rfl) (hf : X.fn x = true ∨ X.env.scope.names.lookup x = some .local := by first | exact .inl rfl | exact .inr rfl | assumption) :
    DS X W (.Assign [.Name x pos'] e pos) (f >>= fun d => M.setD i d >>= fun _ => pure .nx) := by
  refine PS_mono (ps_set hN hi hx h hs hf) fun D σ H ⟨F, P, S, env, rel, post⟩ => ?_
  exact ⟨F, P, S, env, rel, PostS.stepE post fun d e p v S1 H1 rel1 ex1 rp1 => p _ S1 H1 (rel1.setD rp1) ex1⟩
/-- x = [..], to be changed later -/
theorem ds_setL {i : Nat} {x : Str} {es : List Expr} {f : M (List PyData)} {pos pos' pos2 : Pos} (hN : X.N.Nodup) (h : DA X W es f) (hi : X.N[i]? = some x := by rfl) (hx : Loc X.env.scope x := by first | exact Or.inl rfl | exact Or.inr rfl)
    (hs : swapsWith (.List es pos2) (some (.Name x pos')) pos.line X.env = pure false := by rfl) (hf : X.fn x = true ∨ X.env.scope.names.lookup x = some .local := by first | exact .inl rfl | exact .inr rfl | assumption) :
    DS X W (.Assign [.Name x pos'] (.List es pos2) pos) (f >>= fun ds => M.lift (szOk ds.length) >>= fun _ => M.setL i ds >>= fun _ => pure .nx) := by
  refine PS_mono (ps_set hN hi hx (pe_lst h) hs hf) fun D σ H ⟨F, P, S, env, rel, post⟩ => ?_
  refine ⟨F, P, S, env, rel, PostS.stepE post fun ds e p vs S1 H1 rel1 ex1 rp1 => ?_⟩
  obtain ⟨u, eu, q⟩ := (PostS.step p (R' := fun c e2 => _) fun c e2 q => q).lift
  exact ⟨by rw [rp1.length]; exact szOk_le eu, fun a ha => q _ S1 _ (rel1.setM ha rp1) ex1⟩
/-! ### a list of one's own -/
/-- the list of slot i written anew -/
theorem RelE.write {K : PySem.W.Frag} {mg : Str → Option Value} {H : Hp} {env : Sl} {i : Nat} {b : Bool} {ds ds' : List PyData} {p : Addr} {xs' : List V} (r : RelE K mg F P S H σ env) (e : env[i]? = some (some (.lis b ds))) (hs : σ[i]? = some (some (.ref p))) (h : RpAll K S xs' ds') :
    RelE K mg F P S (upd H p (.lst xs')) σ (env.set i (some (.lis b ds'))) := by
  obtain ⟨p', xs, h1, h2, h3, h4, h5, h6⟩ := r.lis e
  rw [hs] at h1; cases h1
  have hl : i < env.length := (List.getElem?_eq_some_iff.mp e).1
  refine ⟨⟨fun a o q => ?_, fun a o q => ?_, r.dj, r.tb.write h2 trivial trivial, r.ns, r.nf⟩, by simp [r.len], fun j s q => ?_, fun j k q bi di bj dj e1 e2 s1 s2 => ?_⟩
  · rw [upd_ne (fun z => by rw [z, h3] at q; cases q)]; exact r.sh a o q
  · rw [upd_ne (fun z => by rw [z, h4] at q; cases q)]; exact r.fh a o q
  · by_cases z : i = j
    · subst z
      rw [List.getElem?_set_self hl] at q; cases q
      exact ⟨p, .lst xs', hs, upd_same, h3, h4, h, h6⟩
    · rw [List.getElem?_set_ne z] at q
      have h := r.ats j s q
      cases s with
      | dat d => exact h
      | raw v => exact h
      | fn x => exact h
      | exc a x => exact h
      | frz ds => exact h
      | wk ds => exact h
      | mt b' ds'' =>
        obtain ⟨p', xs'', g1, g2, g3⟩ := h
        refine ⟨p', xs'', g1, ?_, g3⟩
        rw [upd_ne]
        · exact g2
        · intro y
          subst y
          exact z (r.uq i j p' b (.lst ds) b' ds'' e q hs g1)
  · have aux : ∀ {j : Nat} {b' : Bool} {ds'' : Mt}, (env.set i (some (Sv.lis b ds')))[j]? = some (some (.mt b' ds'')) → ∃ c e, env[j]? = some (some (.mt c e)) := fun {j b' ds''} e' => by
      by_cases z : i = j
      · subst z; exact ⟨_, _, e⟩
      · rw [List.getElem?_set_ne z] at e'; exact ⟨_, _, e'⟩
    obtain ⟨c1, d1, g1⟩ := aux e1
    obtain ⟨c2, d2, g2⟩ := aux e2
    exact r.uq j k q c1 d1 c2 d2 g1 g2 s1 s2
def M.ownL (i : Nat) : M Unit := fun e => match e[i]? with
  | some (some (.mt _ (.lst _))) => .ok () e
  | _ => .bad
def M.app (i : Nat) (d : PyData) : M Unit := fun e => match e[i]? with
  | some (some (.mt b (.lst ds))) => if ds.length < sizeLine then .ok () (e.set i (some (.lis b (ds ++ [d])))) else .bad
  | _ => .bad
theorem PostS.ownL {i : Nat} {env : Sl} {β : Type} {k : Unit → M β} {R : β → Sl → Prop} {K : PySem.W.Frag} {mg : Str → Option Value} {H F' S' : Hp} {P' : List (Option Addr)} (rel : RelE K mg F' P' S' H σ env) (h : PostS X W F P S ((M.ownL i env).then k) R) :
    ∃ p xs, σ[i]? = some (some (.ref p)) ∧ H p = some (.lst xs) ∧ PostS X W F P S (k () env) R := by
  unfold M.ownL at h
  split at h
  · rename_i b ds he
    obtain ⟨p, xs, g1, g2, _⟩ := rel.lis he
    exact ⟨p, xs, g1, g2, h⟩
  · exact h.elim
theorem Post.ownL {i : Nat} {env : Sl} {β : Type} {k : Unit → M β} {R : β → Sl → Prop} {K : PySem.W.Frag} {mg : Str → Option Value} {H F' S' : Hp} {P' : List (Option Addr)} (rel : RelE K mg F' P' S' H σ env) (h : Post X W F P S σ ((M.ownL i env).then k) R) :
    ∃ p xs, σ[i]? = some (some (.ref p)) ∧ H p = some (.lst xs) ∧ Post X W F P S σ (k () env) R := by
  unfold M.ownL at h
  split at h
  · rename_i b ds he
    obtain ⟨p, xs, g1, g2, _⟩ := rel.lis he
    exact ⟨p, xs, g1, g2, h⟩
  · exact h.elim
/-- x.append(e) -/
theorem ds_app {i : Nat} {x : Str} {e : Expr} {f : M PyData} {xp apos cpos pos : Pos} (h : DE X W e f) (hN : X.N[i]? = some x := by rfl) (hv : Vis X.env.scope x := by first | exact Or.inl rfl | exact Or.inr (Or.inl rfl) | exact Or.inr (Or.inr rfl))
    (hd : (x == ("__debug__" : Str)) = false := by decide) (hcd : (x == ("__classdict__" : Str)) = false := by decide)
    (hs : starEach [e] X.env = (false, eval e X.env) :: starEach [] X.env := by rfl)
    (hbase : attributeBase (.Name x xp) "append" X.env (eval (.Name x xp) X.env) = eval (.Name x xp) X.env := by rfl)
    (hfew : ((backTo cpos (starEach [e] X.env)).all (fun x => !x.1) && (backToKw cpos (keywordEach [] X.env)).all (fun x => x.1.isSome)
      && decide ([e].length + ([] : List Keyword).length + (if ([] : List Keyword).isEmpty then 0 else 1) < 30)) = true := by rfl)
    (hline : (apos.endLine == cpos.line) = true := by rfl) (hplain : (backTo cpos (starEach [] X.env)).any (·.1) = false := by rfl)
    (hsw : swapsWith (.Call (.Attribute (.Name x xp) "append" apos) [e] [] cpos) none pos.line X.env = pure false := by rfl) :
    DS X W (.Expr (.Call (.Attribute (.Name x xp) "append" apos) [e] [] cpos) pos) (M.ownL i >>= fun _ => f >>= fun d => M.app i d >>= fun _ => pure .nx) := by
  refine PS_mono (ps_expr (pe_bm PySem.F.plainAttrs_list PySem.F.slot_list_append PySem.F.type_list_append mt_append (pe_var hN hv hd hcd) (pa_cons h pa_nil hs) hbase hfew hline hs hplain) hsw) fun D σ H ⟨F, P, S, env, rel, post⟩ => ?_
  obtain ⟨p, xs, h1, h2, post⟩ := PostS.ownL rel post
  refine ⟨.ref p, h1, .inl ⟨rfl, xs, SqL.of h2⟩, F, P, S, env, rel, PostS.stepE post fun d e q v S1 H1 rel1 ex1 rp1 => ?_⟩
  have q2 := PostS.step q (R' := fun (_ : Unit) e2 => FlOk X F P S D e2 .nx) fun _ e2 z => z
  unfold M.app at q2
  split at q2
  · rename_i b ds he
    split at q2
    · rename_i hl
      obtain ⟨p', xs', g1, g2, g3, g4, g5, g6⟩ := rel1.lis he
      rw [h1] at g1; cases g1
      exact ⟨p, xs', v, rfl, rfl, g2, by rw [g5.length]; exact hl, q2 σ S1 _ (rel1.write he h1 (g5.append (.one rp1))) ex1⟩
    · exact q2.elim
  · exact q2.elim
/-- x[k] of a list of one's own -/
def M.peek (i : Nat) (k : PyData) : M PyData := fun e => match e[i]?, k with
  | some (some (.mt _ (.lst ds))), .int j => match L2.atI ds j with
    | some d => .ok d e
    | none => .bad
  | _, _ => .bad
theorem de_peek {i : Nat} {x : Str} {b : Expr} {f : M PyData} {xp pos : Pos} (h : DE X W b f) (hs : PlainIx b := by exact fun _ _ => rfl) (hN : X.N[i]? = some x := by rfl) (hv : Vis X.env.scope x := by first | exact Or.inl rfl | exact Or.inr (Or.inl rfl) | exact Or.inr (Or.inr rfl))
    (hd : (x == ("__debug__" : Str)) = false := by decide) (hcd : (x == ("__classdict__" : Str)) = false := by decide) : DE X W (.Subscript (.Name x xp) b pos) (M.ownL i >>= fun _ => f >>= fun k => M.peek i k) := by
  refine PE_mono (pe_ix ix_list (pe_var hN hv hd hcd) h hs) fun σ H Q ⟨F, P, S, env, rel, post⟩ => ?_
  obtain ⟨p, xs, h1, h2, post⟩ := Post.ownL rel post
  refine ⟨.ref p, h1, F, P, S, env, rel, Post.step post fun k e q v S1 H1 rel1 ex1 rp1 => ?_⟩
  unfold M.peek at q
  split at q
  · rename_i b ds j he
    split at q
    · rename_i d hd
      obtain ⟨p', xs', g1, g2, g3, g4, g5, g6⟩ := rel1.lis he
      rw [h1] at g1; cases g1
      obtain ⟨w, h3, h4⟩ := g5.atI hd
      exact ⟨p, xs', j, w, rfl, rp1.int_inv, SqL.of g2, h3, q w S1 H1 rel1 ex1 h4⟩
    · exact q.elim
  · exact q.elim
/-- x[k] = e of a list of one's own -/
def M.put (i : Nat) (k d : PyData) : M Unit := fun e => match e[i]?, k with
  | some (some (.mt b (.lst ds))), .int j => match L2.ixN ds.length j with
    | some n => .ok () (e.set i (some (.lis b (ds.set n d))))
    | none => .bad
  | _, _ => .bad
theorem ds_put {i : Nat} {x : Str} {b e : Expr} {f g : M PyData} {xp tp pos : Pos} (he : DE X W e f) (hb : DE X W b g) (hN : X.N[i]? = some x := by rfl) (hv : Vis X.env.scope x := by first | exact Or.inl rfl | exact Or.inr (Or.inl rfl) | exact Or.inr (Or.inr rfl))
    (hd : (x == ("__debug__" : Str)) = false := by decide) (hcd : (x == ("__classdict__" : Str)) = false := by decide)
    (ha : ∀ v, assign (.Subscript (.Name x xp) b tp) X.env v = (do
      let ov ← holding [v] (eval (.Name x xp) X.env)
      let iv ← holding [v, ov] (eval b X.env)
      standAt tp
      holding [v, ov, iv] (setItem ov iv v)
      release [v, ov, iv] []) := by intro _; rfl)
    (hs : swapsWithSole [.Subscript (.Name x xp) b tp] e pos.line X.env = pure false := by rfl) (hw : swappedStores [.Subscript (.Name x xp) b tp] e X.env = pure none := by rfl)
    (h1 : (assignEach [.Subscript (.Name x xp) b tp] X.env).map (·.2) = [assign (.Subscript (.Name x xp) b tp) X.env] := by rfl) :
    DS X W (.Assign [.Subscript (.Name x xp) b tp] e pos) (f >>= fun d => M.ownL i >>= fun _ => g >>= fun k => M.put i k d >>= fun _ => pure .nx) := by
  refine PS_mono (ps_asg he (pg_sub (pe_var hN hv hd hcd) hb set_list ha) hs hw h1) fun D σ H ⟨F, P, S, env, rel, post⟩ => ?_
  refine ⟨F, P, S, env, rel, PostS.stepE post fun d e q v S1 H1 rel1 ex1 rp1 => ?_⟩
  obtain ⟨p, xs, h1, h2, q⟩ := PostS.ownL rel1 q
  refine ⟨.ref p, h1, F, P, S1, e, rel1, (PostS.stepE (σ := σ) q (R' := fun k e2 => PostS X W F P S (M.put i k d e2) fun _ e3 => FlOk X F P S D e3 .nx) fun k e2 z => PostS.step z fun _ e3 y => y).mono ex1 fun k e2 z w S2 H2 rel2 ex2 rp2 => ?_⟩
  unfold M.put at z
  split at z
  · rename_i b ds j he
    split at z
    · rename_i n hn
      obtain ⟨p', xs', g1, g2, g3, g4, g5, g6⟩ := rel2.lis he
      rw [h1] at g1; cases g1
      exact ⟨p, xs', j, n, rfl, rp2.int_inv, g2, by rw [g5.length]; exact hn, z σ S2 _ (rel2.write he h1 (g5.set n (rp1.mono ex2))) (ex1.trans ex2)⟩
    · exact z.elim
  · exact z.elim
end
end DL
namespace DL
open PySem L2

/-! ### targets -/
/-- data, or a tuple of data of whose object nothing is known -/
def RpW (K : PySem.W.Frag) (S : Hp) (v : V) (d : PyData) : Prop := Rp K S v d ∨ ∃ a xs ds, v = .ref a ∧ d = .tuple ds ∧ SqT K S a xs ∧ RpAll K S xs ds
def Rq (K : PySem.W.Frag) (S : Hp) (b : Bool) (v : V) (d : PyData) : Prop := match b with
  | true => Rp K S v d
  | false => RpW K S v d
theorem Rq.w {K : PySem.W.Frag} {S : Hp} {b : Bool} {v : V} {d : PyData} (h : Rq K S b v d) : RpW K S v d := by
  cases b with
  | true => exact .inl h
  | false => exact h
theorem RpW.tup_inv {K : PySem.W.Frag} {S : Hp} {v : V} {ds : List PyData} (h : RpW K S v (.tuple ds)) : ∃ a xs, v = .ref a ∧ SqT K S a xs ∧ RpAll K S xs ds := by
  rcases h with h | ⟨a, xs, ds', rfl, e, h1, h2⟩
  · exact h.tup_inv
  · cases e; exact ⟨a, xs, rfl, h1, h2⟩
inductive Tg where
  | nm (i : Nat)
  | wk (i : Nat)
  | tp (ts : List Tg)
mutual
def Tg.slots : Tg → List Nat
  | .nm i => [i]
  | .wk i => [i]
  | .tp ts => Tg.slotsL ts
def Tg.slotsL : List Tg → List Nat
  | [] => []
  | t :: ts => t.slots ++ Tg.slotsL ts
end
mutual
def Tg.set : Tg → PyData → Sl → Option Sl
  | .nm i, d, e => some (e.set i (some (.dat d)))
  | .wk i, .tuple ds, e => some (e.set i (some (.wk ds)))
  | .wk _, _, _ => none
  | .tp ts, .tuple ds, e => Tg.setL ts ds e
  | .tp _, _, _ => none
def Tg.setL : List Tg → List PyData → Sl → Option Sl
  | [], [], e => some e
  | t :: ts, d :: ds, e => (t.set d e).bind fun e' => Tg.setL ts ds e'
  | _, _, _ => none
end
section
variable (X : Cx)
def tDG (b : Bool) (t : Tg) : TG := fun v σ H Q => ∃ F P S env d env', RelE X.K X.mg F P S H σ env ∧ Rq X.K S b v d ∧ t.set d env = some env' ∧
  ∀ σ', RelE X.K X.mg F P S H σ' env' → (∀ j, j ∉ t.slots → σ'[j]? = σ[j]?) → Q σ' H
def tDGs (ts : List Tg) : TGs := fun vs σ H Q => ∃ F P S env ds env', RelE X.K X.mg F P S H σ env ∧ RpAll X.K S vs ds ∧ Tg.setL ts ds env = some env' ∧
  ∀ σ', RelE X.K X.mg F P S H σ' env' → (∀ j, j ∉ Tg.slotsL ts → σ'[j]? = σ[j]?) → Q σ' H
def DG (b : Bool) (e : Expr) (t : Tg) : Prop := PG X e (tDG X b t)
def DGs (es : List Expr) (ts : List Tg) : Prop := PGs X es (tDGs X ts)
end
section
variable {X : Cx} {W : WX}
theorem PG_mono {e : Expr} {t t' : TG} (h : PG X e t) (m : ∀ v σ H Q, t' v σ H Q → t v σ H Q) : PG X e t' := ⟨fun pins s σ H v u Q I r q => h.run pins s σ H v u Q I r (m v σ H Q q)⟩
theorem PGs_mono {e : List Expr} {t t' : TGs} (h : PGs X e t) (m : ∀ v σ H Q, t' v σ H Q → t v σ H Q) : PGs X e t' := ⟨fun pins s σ H v u Q I r q => h.run pins s σ H v u Q I r (m v σ H Q q)⟩
theorem dg_name {i : Nat} {x : Str} {pos : Pos} (hN : X.N.Nodup) (hi : X.N[i]? = some x := by rfl) (hx : Loc X.env.scope x := by first | exact Or.inl rfl | exact Or.inr rfl)
    (hf : X.fn x = true ∨ X.env.scope.names.lookup x = some .local := by first | exact .inl rfl | exact .inr rfl | assumption) : DG X true (.Name x pos) (.nm i) := by
  refine PG_mono (pg_name hN hi hx hf) fun v σ H Q ⟨F, P, S, env, d, env', rel, rp, hs, q⟩ => ?_
  simp only [Tg.set, Option.some.injEq] at hs
  subst hs
  refine q _ (rel.setD rp) fun j hj => ?_
  simp only [Tg.slots, List.mem_singleton] at hj
  rw [List.getElem?_set_ne (fun z => hj z.symm)]
/-- a name for a tuple of whose object nothing is known -/
theorem dg_weak {i : Nat} {x : Str} {pos : Pos} (hN : X.N.Nodup) (hi : X.N[i]? = some x := by rfl) (hx : Loc X.env.scope x := by first | exact Or.inl rfl | exact Or.inr rfl)
    (hf : X.fn x = true ∨ X.env.scope.names.lookup x = some .local := by first | exact .inl rfl | exact .inr rfl | assumption) : DG X false (.Name x pos) (.wk i) := by
  refine PG_mono (pg_name hN hi hx hf) fun v σ H Q ⟨F, P, S, env, d, env', rel, rp, hs, q⟩ => ?_
  cases d with
  | tuple ds =>
    simp only [Tg.set, Option.some.injEq] at hs
    subst hs
    obtain ⟨a, xs, rfl, h1, h2⟩ := RpW.tup_inv rp
    refine q _ (rel.setW h1 h2) fun j hj => ?_
    simp only [Tg.slots, List.mem_singleton] at hj
    rw [List.getElem?_set_ne (fun z => hj z.symm)]
  | _ => simp [Tg.set] at hs
theorem dgs_nil : DGs X [] [] := by
  refine PGs_mono pgs_nil fun v σ H Q ⟨F, P, S, env, d, env', rel, rp, hs, q⟩ => ?_
  cases rp with
  | nil =>
    simp only [Tg.setL, Option.some.injEq] at hs
    subst hs
    exact ⟨rfl, q σ rel fun _ _ => rfl⟩
  | cons _ _ => simp [Tg.setL] at hs
theorem dgs_cons {e : Expr} {es : List Expr} {t : Tg} {ts : List Tg} (h1 : DG X true e t) (h2 : DGs X es ts) (hs : (assignEach (e :: es) X.env).map (·.2) = assign e X.env :: (assignEach es X.env).map (·.2) := by rfl) : DGs X (e :: es) (t :: ts) := by
  refine PGs_mono (pgs_cons h1 h2 hs) fun v σ H Q ⟨F, P, S, env, d, env', rel, rp, hs, q⟩ => ?_
  cases rp with
  | nil => simp [Tg.setL] at hs
  | cons h r =>
    simp only [Tg.setL] at hs
    obtain ⟨e1, g1, g2⟩ := Option.bind_eq_some_iff.mp hs
    refine ⟨_, _, rfl, F, P, S, env, _, e1, rel, h, g1, fun σ1 rel1 k1 => ?_⟩
    refine ⟨F, P, S, e1, _, env', rel1, r, g2, fun σ2 rel2 k2 => q σ2 rel2 fun j hj => ?_⟩
    simp only [Tg.slotsL, List.mem_append, not_or] at hj
    rw [k2 j hj.2, k1 j hj.1]
theorem dg_tup {b : Bool} {es : List Expr} {k : Nat} {ts : List Tg} {pos : Pos} (hc : X.calm = true) (h : DGs X es ts) (hn : (assignEach es X.env).length = ts.length := by rfl) (hst : (assignEach es X.env).findIdx? (·.1) = none := by rfl) : DG X b (.Tuple es k pos) (.tp ts) := by
  refine PG_mono (pg_tup hc h hn hst) fun v σ H Q ⟨F, P, S, env, d, env', rel, rp, hs, q⟩ => ?_
  cases d with
  | tuple ds =>
    obtain ⟨a, xs, rfl, h, r⟩ := RpW.tup_inv rp.w
    simp only [Tg.set] at hs
    have hl : ∀ {ts : List Tg} {ds : List PyData} {e e' : Sl}, Tg.setL ts ds e = some e' → ds.length = ts.length := by
      intro ts
      induction ts with
      | nil => intro ds e e' h; cases ds <;> simp [Tg.setL] at h ⊢
      | cons t ts ih =>
        intro ds e e' h
        cases ds with
        | nil => simp [Tg.setL] at h
        | cons d ds =>
          simp only [Tg.setL] at h
          obtain ⟨e1, g1, g2⟩ := Option.bind_eq_some_iff.mp h
          simp [ih g2]
    exact ⟨_, _, rfl, rel.sh.t h, by rw [r.length, hl hs], F, P, S, env, _, env', rel, r, hs, q⟩
  | _ => simp [Tg.set] at hs
def M.tset (t : Tg) (d : PyData) : M Unit := fun e => match t.set d e with
  | some e' => .ok () e'
  | none => .bad
/-- a, b = e -/
theorem ds_asg {tg e : Expr} {t : Tg} {f : M PyData} {pos : Pos} (he : DE X W e f) (hg : DG X true tg t) (hs : swapsWithSole [tg] e pos.line X.env = pure false := by rfl) (hw : swappedStores [tg] e X.env = pure none := by rfl)
    (h1 : (assignEach [tg] X.env).map (·.2) = [assign tg X.env] := by rfl) : DS X W (.Assign [tg] e pos) (f >>= fun d => M.tset t d >>= fun _ => pure .nx) := by
  refine PS_mono (ps_asg he hg hs hw h1) fun D σ H ⟨F, P, S, env, rel, post⟩ => ?_
  refine ⟨F, P, S, env, rel, PostS.stepE post fun d e q v S1 H1 rel1 ex1 rp1 => ?_⟩
  have q2 := PostS.step q (R' := fun (_ : Unit) e2 => FlOk X F P S D e2 .nx) fun _ e2 z => z
  unfold M.tset at q2
  split at q2
  · rename_i e' he'
    exact ⟨F, P, S1, e, d, e', rel1, rp1, he', fun σ' r _ => q2 σ' S1 H1 r ex1⟩
  · exact q2.elim
/-- a, b = x, y: two local names -/
theorem ds_par {i j : Nat} {x y : Str} {a b : Expr} {f : M (List PyData)} {px py pt pos : Pos} {kt k2 pt2} (hc : X.calm = true) (hN : X.N.Nodup) (ha : DA X W [a, b] f) (hi : X.N[i]? = some x := by rfl) (hj : X.N[j]? = some y := by rfl) (hij : i ≠ j := by decide)
    (hx : X.env.scope.names.lookup x = some .local := by rfl) (hy : X.env.scope.names.lookup y = some .local := by rfl)
    (hw : swappedStores [.Tuple [.Name x px, .Name y py] kt pt] (.Tuple [a, b] k2 pt2) X.env = pure (some [x, y]) := by rfl)
    (hs : swapsWithSole [.Tuple [.Name x px, .Name y py] kt pt] (.Tuple [a, b] k2 pt2) pos.line X.env = pure false := by rfl) :
    DS X W (.Assign [.Tuple [.Name x px, .Name y py] kt pt] (.Tuple [a, b] k2 pt2) pos) (f >>= fun ds => M.tset (.tp [.nm i, .nm j]) (.tuple ds) >>= fun _ => pure .nx) := by
  refine PS_mono (ps_par hc hN hi hj hij hx hy ha hw hs) fun D σ H ⟨F, P, S, env, rel, post⟩ => ?_
  refine ⟨F, P, S, env, rel, PostS.stepE post fun ds e q vs S1 H1 rel1 ex1 rp1 => ?_⟩
  have q2 := PostS.step q (R' := fun (_ : Unit) e2 => FlOk X F P S D e2 .nx) fun _ e2 z => z
  unfold M.tset at q2
  split at q2
  · rename_i e' he'
    cases rp1 with
    | nil => simp [Tg.set, Tg.setL] at he'
    | cons h r =>
      cases r with
      | nil => simp [Tg.set, Tg.setL] at he'
      | cons h2 r2 =>
        cases r2 with
        | cons _ _ => simp [Tg.set, Tg.setL] at he'
        | nil =>
          simp [Tg.set, Tg.setL] at he'
          subst he'
          exact ⟨_, _, rfl, q2 _ S1 H1 ((rel1.setD h).setD h2) ex1⟩
  · exact q2.elim

/-! ### what is walked -/
structure Wk (K : PySem.W.Frag) (J : It) (S : Hp) (b : Bool) (ds : List PyData) : Prop where
  goes : ∀ i H, i < ds.length → Ex S H → J.go i H
  stops : ∀ H, Ex S H → J.stop ds.length H
  yields : ∀ i H x H' d, ds[i]? = some d → Ex S H → J.yld i H x H' → ∀ Sc, Ex S Sc → Ex Sc H → ∃ Sc', Grow K Sc H Sc' H' ∧ Rq K Sc' b x d
theorem Wk.mono {K : PySem.W.Frag} {J : It} {S S' : Hp} {b : Bool} {ds : List PyData} (w : Wk K J S b ds) (e : Ex S S') : Wk K J S' b ds :=
  ⟨fun i H h x => w.goes i H h (e.trans x), fun H x => w.stops H (e.trans x), fun i H x H' d h g y Sc a b => w.yields i H x H' d h (e.trans g) y Sc (e.trans a) b⟩
def tDI (X : Cx) (W : WX) (b : Bool) (f : M (List PyData)) : TI := fun σ H R => ∃ F P S env, RelE X.K X.mg F P S H σ env ∧
  Post X W F P S σ (f env) fun ds e => ∀ J S' H', RelE X.K X.mg F P S' H' σ e → Ex S S' → Wk X.K J S' b ds → R J H'
def DI (X : Cx) (W : WX) (b : Bool) (tg e : Expr) (f : M (List PyData)) : Prop := PI X tg e (tDI X W b f)
theorem PI_mono {tg e : Expr} {t t' : TI} (h : PI X tg e t) (m : ∀ σ H Q, t' σ H Q → t σ H Q) : PI X tg e t' := ⟨fun pins s σ H Q I q => h.run pins s σ H Q I (m σ H Q q)⟩
theorem PI_or {tg e : Expr} {t t' : TI} (h : PI X tg e t) (h' : PI X tg e t') : PI X tg e (fun σ H R => t σ H R ∨ t' σ H R) := ⟨fun pins s σ H Q I q => q.elim (fun q => h.run pins s σ H Q I q) fun q => h'.run pins s σ H Q I q⟩
def signs (x : Str) : List PyData := x.cps.toList.map fun c => .str ⟨#[c]⟩
def items : PyData → Option (List PyData)
  | .list ds => some ds
  | .tuple ds => some ds
  | .str x => some (signs x)
  | _ => none
theorem wk_list {K : PySem.W.Frag} {S : Hp} {a : Addr} {xs : List V} {ds : List PyData} (h : SqL K S a xs) (r : RpAll K S xs ds) : Wk K (Itl K a) S true ds := by
  refine ⟨fun i H hi e => ?_, fun H e => ?_, fun i H x H' d hd e y Sc ss sh => ?_⟩
  · rw [← r.length] at hi; exact walk_list.goes i H hi (e.l h)
  · rw [← r.length]; exact walk_list.stops H (e.l h)
  · obtain ⟨v, h1, h2⟩ := r.get' hd
    obtain ⟨rfl, h3⟩ := walk_list.yields i H x H' (List.getElem?_eq_some_iff.mp h1).1 (e.l h) y
    rw [h1] at h3; cases h3
    exact ⟨Sc, Grow.refl sh, h2.mono ss⟩
theorem wk_tup {K : PySem.W.Frag} {S : Hp} {a : Addr} {xs : List V} {ds : List PyData} (h : SqT K S a xs) (r : RpAll K S xs ds) : Wk K (Itt K a) S true ds := by
  refine ⟨fun i H hi e => ?_, fun H e => ?_, fun i H x H' d hd e y Sc ss sh => ?_⟩
  · rw [← r.length] at hi; exact walk_tup.goes i H hi (e.t h)
  · rw [← r.length]; exact walk_tup.stops H (e.t h)
  · obtain ⟨v, h1, h2⟩ := r.get' hd
    obtain ⟨rfl, h3⟩ := walk_tup.yields i H x H' (List.getElem?_eq_some_iff.mp h1).1 (e.t h) y
    rw [h1] at h3; cases h3
    exact ⟨Sc, Grow.refl sh, h2.mono ss⟩
theorem wk_str {K : PySem.W.Frag} {S : Hp} {z : Str} (h : TxOk z) : Wk K (Its z) S true (signs z) := by
  have hl : (signs z).length = z.cps.size := by simp [signs]
  refine ⟨fun i H hi e => ?_, fun H e => ?_, fun i H x H' d hd e y Sc ss sh => ?_⟩
  · rw [hl] at hi; exact walk_str.goes i H hi trivial
  · rw [hl]; exact walk_str.stops H trivial
  · have hi : i < z.cps.size := by rw [← hl]; exact (List.getElem?_eq_some_iff.mp hd).1
    obtain ⟨rfl, c, h1, rfl⟩ := walk_str.yields i H x H' hi trivial y
    have h2 : z.cps.toList[i]? = some c := by simpa using h1
    have e2 : d = .str ⟨#[c]⟩ := by
      unfold signs at hd
      rw [List.getElem?_map, h2] at hd
      exact (Option.some.inj hd).symm
    subst e2
    exact ⟨Sc, Grow.refl sh, .str _ (h.one (List.mem_of_getElem? h2))⟩
theorem di_any {tg e : Expr} {f : M PyData} (h : DE X W e f) : DI X W true tg e (f >>= fun d => M.lift (items d)) := by
  refine PI_mono (PI_or (pi_list h) (PI_or (pi_tup h) (pi_str h))) fun σ H R ⟨F, P, S, env, rel, post⟩ => ?_
  cases hf : f env with
  | bad => rw [bind_run, hf] at post; exact post.elim
  | exc x e1 =>
    rw [bind_run, hf] at post
    refine .inl ⟨F, P, S, env, rel, ?_⟩
    rw [hf]; exact post
  | ok d e1 =>
    rw [bind_run, hf] at post
    obtain ⟨ds, hd, q⟩ := Post.lift post
    unfold items at hd
    split at hd
    · cases hd
      refine .inl ⟨F, P, S, env, rel, ?_⟩
      rw [hf]
      intro v S1 H1 rel1 ex1 rp1
      obtain ⟨a, xs, rfl, g1, r1⟩ := rp1.lst_inv
      exact ⟨a, rfl, ⟨xs, rel1.sh.l (SqL.of g1)⟩, q _ S1 H1 rel1 ex1 (wk_list (SqL.of g1) r1)⟩
    · cases hd
      refine .inr (.inl ⟨F, P, S, env, rel, ?_⟩)
      rw [hf]
      intro v S1 H1 rel1 ex1 rp1
      obtain ⟨a, xs, rfl, g1, r1⟩ := rp1.tup_inv
      exact ⟨a, rfl, ⟨xs, rel1.sh.t g1⟩, q _ S1 H1 rel1 ex1 (wk_tup g1 r1)⟩
    · cases hd
      refine .inr (.inr ⟨F, P, S, env, rel, ?_⟩)
      rw [hf]
      intro v S1 H1 rel1 ex1 rp1
      obtain ⟨rfl, h1⟩ := rp1.str_inv
      exact ⟨_, rfl, q _ S1 H1 rel1 ex1 (wk_str h1)⟩
    · cases hd
def rangeD : List PyData → Option (List PyData)
  | [.int n] => if n < 2 ^ 62 ∧ -(2 ^ 62) ≤ n then some ((List.range n.toNat).map fun (i : Nat) => .int i) else none
  | _ => none
theorem di_range {tg a : Expr} {f : M (List PyData)} {p pos : Pos} (hm : X.mg "range" = none) (ha : DA X W [a] f) (hg : Gl X "range" := by rfl) (hs : starEach [a] X.env = [(false, eval a X.env)] := by rfl) :
    DI X W true tg (.Call (.Name "range" p) [a] [] pos) (f >>= fun ds => M.lift (rangeD ds)) := by
  refine PI_mono (pi_range1 hg hm ha hs) fun σ H R ⟨F, P, S, env, rel, post⟩ => ?_
  refine ⟨F, P, S, env, rel, Post.step post fun ds e p vs S1 H1 rel1 ex1 rp1 => ?_⟩
  obtain ⟨rs, hr, q⟩ := p.lift
  unfold rangeD at hr
  split at hr
  · split at hr
    · rename_i n hn
      cases hr
      obtain ⟨v, rfl, r⟩ := rp1.one_inv
      rw [r.int_inv]
      refine ⟨n, rfl, hn.2, hn.1, q _ S1 H1 rel1 ex1 ⟨fun i H hi e => ?_, fun H e => ?_, fun i H x H' d hd e y Sc ss sh => ?_⟩⟩
      · rw [List.length_map, List.length_range] at hi; exact hi
      · rw [List.length_map, List.length_range]; exact Nat.le_refl _
      · obtain ⟨rfl, rfl⟩ := y
        rw [List.getElem?_map] at hd
        obtain ⟨k, h1, rfl⟩ := Option.map_eq_some_iff.mp hd
        have : k = i := by
          obtain ⟨h2, h3⟩ := List.getElem?_eq_some_iff.mp h1
          simpa using h3.symm
        subst this
        refine ⟨Sc, Grow.refl sh, ?_⟩
        show Rp X.K Sc _ _
        simpa using Rp.int (K := X.K) (S := Sc) (k : Int)
    · cases hr
  · cases hr
/-! ### for -/
def forM (t : Tg) (body : M Fl) : List PyData → M Fl
  | [] => pure .nx
  | d :: ds => M.tset t d >>= fun _ => body >>= fun fl => match fl with
    | .nx => forM t body ds
    | .ct => forM t body ds
    | .bk => pure .nx
    | .rt d => pure (.rt d)
    | .rl ds => pure (.rl ds)
theorem ds_for {b : Bool} {tg iter : Expr} {body : List Stmt} {t : Tg} {src : M (List PyData)} {f : M Fl} {pos : Pos} (cx : Ctx X W) (hc : X.calm = true) (hi : DI X W b tg iter src) (hg : DG X b tg t) (hb : DSs X W body f)
    (hs : ∀ x, foldedSetIterable iter X.env x = pure x := by intro _; rfl) : DS X W (.For tg iter body [] pos) (src >>= fun ds => forM t f ds) := by
  refine PS_mono (ps_for cx.po hc hi hg hb hs) fun D σ H ⟨F, P, S, env, rel, post⟩ => ?_
  refine ⟨F, P, S, env, rel, PostS.stepE post fun ds e p J S1 H1 rel1 ex1 wk => ?_⟩
  refine ⟨fun i m σ H => m = ds.length - i ∧ i ≤ ds.length ∧ ∃ S2 e2, RelE X.K X.mg F P S2 H σ e2 ∧ Ex S1 S2 ∧ PostS X W F P S (forM t f (ds.drop i) e2) fun fl e => FlOk X F P S D e fl, ⟨ds.length, by simp, Nat.zero_le _, S1, e, rel1, Ex.refl S1, by simpa using p⟩, ?_⟩
  rintro i m σ2 H2 ⟨rfl, hi, S2, e2, rel2, ex2, post2⟩
  by_cases hlt : i < ds.length
  · obtain ⟨d, hd⟩ : ∃ d, ds[i]? = some d := ⟨ds[i], by simp [hlt]⟩
    have hdrop : ds.drop i = d :: ds.drop (i + 1) := by
      rw [List.drop_eq_getElem_cons hlt]
      congr 1
      rw [List.getElem?_eq_getElem hlt] at hd
      exact Option.some.inj hd
    refine .inr ⟨wk.goes i H2 hlt (ex2.trans rel2.sh), fun σ' H' => ∃ S3 e3, RelE X.K X.mg F P S3 H' σ' e3 ∧ Ex S1 S3 ∧ PostS X W F P S (forM t f (ds.drop (i + 1)) e3) fun fl e => FlOk X F P S D e fl,
      fun σ' H' ⟨S3, e3, r3, x3, p3⟩ => ⟨ds.length - (i + 1), by omega, rfl, hlt, S3, e3, r3, x3, p3⟩, fun x H' y => ?_⟩
    obtain ⟨S3, gr, rp⟩ := wk.yields i H2 x H' d hd (ex2.trans rel2.sh) y S2 ex2 rel2.sh
    have rel3 := rel2.grow gr
    rw [hdrop] at post2
    have p3 := PostS.step post2 (R' := fun (_ : Unit) e4 => PostS X W F P S (f e4) fun fl e5 => PostS X W F P S ((match fl with | .nx => forM t f (ds.drop (i + 1)) | .ct => forM t f (ds.drop (i + 1)) | .bk => pure .nx | .rt d => pure (.rt d) | .rl ds => pure (.rl ds) : M Fl) e5) fun fl e => FlOk X F P S D e fl)
      fun _ e4 z => PostS.step z fun fl e5 w => w
    unfold M.tset at p3
    split at p3
    · rename_i e4 he4
      refine ⟨F, P, S3, e2, d, e4, rel3, rp, he4, fun σ' r4 _ => ⟨F, P, S3, e4, r4, PostS.mono p3 (ex1.trans (ex2.trans gr.ss)) fun fl e5 z => ?_⟩⟩
      cases fl with
      | nx => exact fun σ5 S5 H5 r5 x5 => ⟨S5, e5, r5, (ex2.trans gr.ss).trans x5, z⟩
      | ct => exact fun σ5 S5 H5 r5 x5 => ⟨S5, e5, r5, (ex2.trans gr.ss).trans x5, z⟩
      | bk => exact fun σ5 S5 H5 r5 x5 => z σ5 S5 H5 r5 ((ex1.trans (ex2.trans gr.ss)).trans x5)
      | rt d => exact fun v σ5 S5 H5 r5 x5 => z v σ5 S5 H5 r5 ((ex1.trans (ex2.trans gr.ss)).trans x5)
      | rl d => exact fun p xs σ5 S5 H5 r5 x5 => z p xs σ5 S5 H5 r5 ((ex1.trans (ex2.trans gr.ss)).trans x5)
    · exact p3.elim
  · have e : i = ds.length := by omega
    subst e
    rw [List.drop_length] at post2
    exact .inl ⟨wk.stops H2 (ex2.trans rel2.sh), post2 σ2 S2 H2 rel2 (ex1.trans ex2)⟩
end
end DL
namespace DL
open PySem L2

/-! ### comprehensions -/
theorem ntLst {xs : List V} : ¬ Tp (.lst xs) := by rintro ⟨_, h⟩; cases h
def wipeE (e : Sl) : List Nat → Sl
  | [] => e
  | v :: vs => (wipeE e vs).set v none
def restoreE (e o : Sl) : List Nat → Sl
  | [] => e
  | v :: vs => (restoreE e o vs).set v (o[v]?.getD none)
def noLis (e : Sl) (vs : List Nat) : Bool := vs.all fun i => match e[i]? with
  | some (some (.mt _ _)) => false
  | _ => true
theorem wipeE_length (e : Sl) : ∀ vs : List Nat, (wipeE e vs).length = e.length
  | [] => rfl
  | v :: vs => by unfold wipeE; rw [List.length_set, wipeE_length e vs]
theorem restoreE_length (e o : Sl) : ∀ vs : List Nat, (restoreE e o vs).length = e.length
  | [] => rfl
  | v :: vs => by unfold restoreE; rw [List.length_set, restoreE_length e o vs]
theorem wipeE_out {e : Sl} {i : Nat} : ∀ {vs : List Nat}, i ∉ vs → (wipeE e vs)[i]? = e[i]?
  | [], _ => rfl
  | v :: vs, h => by
    simp only [List.mem_cons, not_or] at h
    unfold wipeE
    rw [List.getElem?_set_ne (fun z => h.1 z.symm), wipeE_out h.2]
theorem wipeE_in {e : Sl} {i : Nat} {s : Sv} : ∀ {vs : List Nat}, i ∈ vs → (wipeE e vs)[i]? ≠ some (some s)
  | v :: vs, h => by
    unfold wipeE
    by_cases z : v = i
    · subst z
      by_cases hl : v < (wipeE e vs).length
      · rw [List.getElem?_set_self hl]; simp
      · rw [List.getElem?_eq_none (by simpa using hl)]; simp
    · rw [List.getElem?_set_ne z]
      simp only [List.mem_cons] at h
      exact wipeE_in (h.resolve_left fun q => z q.symm)
theorem restoreE_out {e o : Sl} {i : Nat} : ∀ {vs : List Nat}, i ∉ vs → (restoreE e o vs)[i]? = e[i]?
  | [], _ => rfl
  | v :: vs, h => by
    simp only [List.mem_cons, not_or] at h
    unfold restoreE
    rw [List.getElem?_set_ne (fun z => h.1 z.symm), restoreE_out h.2]
theorem restoreE_in {e o : Sl} {i : Nat} {s : Sv} : ∀ {vs : List Nat}, i ∈ vs → (restoreE e o vs)[i]? = some (some s) → o[i]? = some (some s)
  | v :: vs, h, q => by
    unfold restoreE at q
    by_cases z : v = i
    · subst z
      by_cases hl : v < (restoreE e o vs).length
      · rw [List.getElem?_set_self hl] at q
        cases ho : o[v]? with
        | none => rw [ho] at q; simp at q
        | some x => rw [ho] at q; simpa using q
      · rw [List.getElem?_eq_none (by simpa using hl)] at q; cases q
    · rw [List.getElem?_set_ne z] at q
      simp only [List.mem_cons] at h
      exact restoreE_in (h.resolve_left fun q => z q.symm) q
section
variable {K : PySem.W.Frag} {mg : Str → Option Value} {F : Hp} {P : List (Option Addr)} {S S1 H H1 : Hp} {σ σ' : St} {e e1 : Sl} {vs : List Nat} {D : Addr} {o : HO}
theorem SvOk.move {i : Nat} {s : Sv} (h : SvOk K mg F P S H σ i s) (q : σ'[i]? = σ[i]?) : SvOk K mg F P S H σ' i s := by
  cases s with
  | dat d => obtain ⟨v, h1, h2⟩ := h; exact ⟨v, by rw [q]; exact h1, h2⟩
  | raw v => exact q.trans h
  | fn x => obtain ⟨a, h1, h2⟩ := h; exact ⟨a, q.trans h1, h2⟩
  | exc a x => exact q.trans h
  | frz ds => obtain ⟨a, xs, h1, h2⟩ := h; exact ⟨a, xs, by rw [q]; exact h1, h2⟩
  | wk ds => obtain ⟨a, xs, h1, h2⟩ := h; exact ⟨a, xs, by rw [q]; exact h1, h2⟩
  | mt b ds => obtain ⟨p, xs, h1, h2⟩ := h; exact ⟨p, xs, by rw [q]; exact h1, h2⟩
/-- other slots, the own names of a block forgotten -/
theorem RelE.wipe (r : RelE K mg F P S H σ e) (h : ∀ i, i ∉ vs → σ'[i]? = σ[i]?) (hl : σ'.length = σ.length) : RelE K mg F P S H σ' (wipeE e vs) where
  toWd := r.toWd
  len := by rw [wipeE_length, hl]; exact r.len
  ats := fun i s q => by
    by_cases hi : i ∈ vs
    · exact absurd q (wipeE_in hi)
    · rw [wipeE_out hi] at q
      exact (r.ats i s q).move (h i hi)
  uq := fun i j p bi di bj dj e1 e2 s1 s2 => by
    have n1 : i ∉ vs := fun z => absurd e1 (wipeE_in z)
    have n2 : j ∉ vs := fun z => absurd e2 (wipeE_in z)
    rw [wipeE_out n1] at e1
    rw [wipeE_out n2] at e2
    rw [h i n1] at s1
    rw [h j n2] at s2
    exact r.uq i j p bi di bj dj e1 e2 s1 s2
/-- no slot's own list stands at D -/
def Apart (σ : St) (e : Sl) (D : Addr) : Prop := ∀ (i : Nat) (b : Bool) (ds : Mt), e[i]? = some (some (.mt b ds)) → σ[i]? ≠ some (some (.ref D))
theorem RelE.apart (r : RelE K mg F P S H σ e) (h : H D = none) : Apart σ e D := fun i b ds q z => by
  obtain ⟨p, xs, h1, h2, _⟩ := r.ats i _ q
  rw [z] at h1; cases h1
  rw [h] at h2; cases h2
theorem RelE.apartF (r : RelE K mg F P S H σ e) (h : F D = some o) : Apart σ e D := fun i b ds q z => by
  obtain ⟨p, xs, h1, h2, h3, h4, _⟩ := r.ats i _ q
  rw [z] at h1; cases h1
  rw [h] at h4; cases h4
theorem RelE.fram (r : RelE K mg F P S H σ e) (h : H D = some o) (hs : S D = none) (a : Apart σ e D) (ho : NT o := by exact trivial) : RelE K mg (upd F D o) P S H σ e where
  sh := r.sh
  tb := r.tb
  ns := r.ns
  nf := r.nf.upd ho
  fh := fun b u q => by
    by_cases z : b = D
    · subst z; rw [upd_same] at q; cases q; exact h
    · rw [upd_ne z] at q; exact r.fh b u q
  dj := fun b u q => by
    rw [upd_ne (fun z => by rw [z, hs] at q; cases q)]
    exact r.dj b u q
  len := r.len
  ats := fun i s q => by
    have h := r.ats i s q
    cases s with
    | dat d => exact h
    | raw v => exact h
    | fn x => exact h
    | exc a x => exact h
    | frz ds => exact h
    | wk ds => exact h
    | mt b ds =>
      obtain ⟨p, xs, h1, h2, h3, h4, h5⟩ := h
      refine ⟨p, xs, h1, h2, h3, ?_, h5⟩
      rw [upd_ne (fun z => a i b ds q (by rw [← z]; exact h1))]
      exact h4
  uq := r.uq
theorem RelE.unfram {o' : HO} (r : RelE K mg (upd F D o) P S H σ e) (hf : F D = none) (nt : ¬ Tp o) (ho : NT o := by exact trivial) (ho' : NT o' := by exact trivial) : RelE K mg F P S (upd H D o') σ e := by
  have hs : S D = none := r.dj.none upd_same nt
  have ap := r.apartF upd_same
  refine ⟨⟨fun b u q => ?_, fun b u q => ?_, fun b u q => ?_, r.tb.write (r.fh D o upd_same) ho ho', r.ns, fun b ps q => r.nf b ps (by rw [upd_ne (fun z => by rw [z, hf] at q; cases q)]; exact q)⟩, r.len, fun i s q => ?_, r.uq⟩
  · rw [upd_ne (fun z => by rw [z, hs] at q; cases q)]; exact r.sh b u q
  · have hb : b ≠ D := fun z => by rw [z, hf] at q; cases q
    rw [upd_ne hb]; exact r.fh b u (by rw [upd_ne hb]; exact q)
  · by_cases z : b = D
    · subst z; exact .inl hf
    · have := r.dj b u q; rw [upd_ne z] at this; exact this
  · have h := r.ats i s q
    cases s with
    | dat d => exact h
    | raw v => exact h
    | fn x => exact h
    | exc a x => exact h
    | frz ds => exact h
    | wk ds => exact h
    | mt b ds =>
      obtain ⟨p, xs, h1, h2, h3, h4, h5⟩ := h
      have hp : p ≠ D := fun z => ap i b ds q (by rw [← z]; exact h1)
      rw [upd_ne hp] at h4
      exact ⟨p, xs, h1, by rw [upd_ne hp]; exact h2, h3, h4, h5⟩
/-- a new object that stands apart becomes data -/
theorem RelE.keep (r : RelE K mg F P S H σ e) (h : H D = some o) (hf : F D = none) (a : Apart σ e D) (hs : S D = none) (ho : NT o := by exact trivial) : RelE K mg F P (upd S D o) H σ e where
  tb := r.tb
  ns := r.ns.upd ho
  nf := r.nf
  sh := fun b u q => by
    by_cases z : b = D
    · subst z; rw [upd_same] at q; cases q; exact h
    · rw [upd_ne z] at q; exact r.sh b u q
  fh := r.fh
  dj := fun b u q => by
    by_cases z : b = D
    · subst z; exact .inl hf
    · rw [upd_ne z] at q; exact r.dj b u q
  len := r.len
  ats := fun i s q => by
    have ex : Ex S (upd S D o) := Ex.new hs
    have h := r.ats i s q
    cases s with
    | dat d => obtain ⟨v, g1, g2⟩ := h; exact ⟨v, g1, g2.mono ex⟩
    | raw v => exact h
    | fn x => exact h
    | exc a x => exact h
    | frz ds => obtain ⟨b, xs, g1, g2, g3⟩ := h; exact ⟨b, xs, g1, ex.l g2, g3.mono ex⟩
    | wk ds => obtain ⟨b, xs, g1, g2, g3⟩ := h; exact ⟨b, xs, g1, ex.t g2, g3.mono ex⟩
    | mt b ds =>
      obtain ⟨p, xs, h1, h2, h3, h4, h5, h6⟩ := h
      exact ⟨p, xs, h1, h2, by rw [upd_ne (fun z => a i b ds q (by rw [← z]; exact h1))]; exact h3, h4, h5.mono ex, h6⟩
  uq := r.uq
/-- behind a block: its own names as they were -/
theorem RelE.restore (r : RelE K mg F P S H σ' e) (r1 : RelE K mg F P S1 H1 σ e1) (ex : Ex S1 S) (h : ∀ i, i ∉ vs → σ'[i]? = σ[i]?) (hl : σ'.length = σ.length) (hn : noLis e1 vs = true) : RelE K mg F P S H σ (restoreE e e1 vs) := by
  have nol : ∀ {i : Nat} {b : Bool} {ds : Mt}, (restoreE e e1 vs)[i]? = some (some (.mt b ds)) → i ∉ vs := fun {i b ds} q hi => by
    have q2 := restoreE_in hi q
    have := List.all_eq_true.mp hn i hi
    rw [q2] at this; cases this
  refine ⟨r.toWd, by rw [restoreE_length, ← r.len, hl], fun i s q => ?_, fun i j p bi di bj dj e1' e2' s1 s2 => ?_⟩
  · by_cases hi : i ∈ vs
    · have q2 := restoreE_in hi q
      have g := r1.ats i s q2
      cases s with
      | dat d => obtain ⟨v, g1, g2⟩ := g; exact ⟨v, g1, g2.mono ex⟩
      | raw v => exact g
      | fn x => exact g
      | exc a x => exact g
      | frz ds => obtain ⟨b, xs, g1, g2, g3⟩ := g; exact ⟨b, xs, g1, ex.l g2, g3.mono ex⟩
      | wk ds => obtain ⟨b, xs, g1, g2, g3⟩ := g; exact ⟨b, xs, g1, ex.t g2, g3.mono ex⟩
      | mt b ds => exact absurd hi (nol q)
    · rw [restoreE_out hi] at q
      exact (r.ats i s q).move (h i hi).symm
  · have n1 := nol e1'
    have n2 := nol e2'
    rw [restoreE_out n1] at e1'
    rw [restoreE_out n2] at e2'
    rw [← h i n1] at s1
    rw [← h j n2] at s2
    exact r.uq i j p bi di bj dj e1' e2' s1 s2
end
def M.wipe (vs : List Nat) : M Unit := fun e => .ok () (wipeE e vs)
def lcGo (vs : List Nat) (t : Tg) (tt : M Bool) (fe : M PyData) : List PyData → List PyData → M (List PyData)
  | [], acc => pure acc
  | d :: ds, acc => M.tset t d >>= fun _ => tt >>= fun b => if b = true then fe >>= fun y => M.lift (szOk (acc.length + 1)) >>= fun _ => M.wipe vs >>= fun _ => lcGo vs t tt fe ds (acc ++ [y]) else M.wipe vs >>= fun _ => lcGo vs t tt fe ds acc
def mLC (vs : List Nat) (t : Tg) (tt : M Bool) (fe : M PyData) (ds : List PyData) : M PyData := fun e => if noLis e vs = true then
    match lcGo vs t tt fe ds [] (wipeE e vs) with
    | .ok acc e' => .ok (.list acc) (restoreE e' e vs)
    | _ => .bad
  else .bad
/-- the tests of a comprehension -/
def DTs (X : Cx) (W : WX) (ifs : List Expr) (f : M Bool) : Prop := PTs X ifs (tDT X W f)
section
variable {X : Cx} {W : WX}
theorem PTs_mono {e : List Expr} {t t' : TT} (h : PTs X e t) (m : ∀ σ H Q, t' σ H Q → t σ H Q) : PTs X e t' := ⟨fun pins s σ H Q I q => h.run pins s σ H Q I (m σ H Q q)⟩
theorem dts_nil : DTs X W [] (pure true) := PTs_mono pts_nil fun σ H Q ⟨F, P, S, env, rel, post⟩ => post S H rel (Ex.refl S)
theorem dts_one {c : Expr} {f : M Bool} (h : DT X W c f) : DTs X W [c] f := pts_one h
theorem then_inv {α β : Type} {o : Out α} {k : α → M β} {b : β} {e' : Sl} (h : o.then k = .ok b e') : ∃ a e, o = .ok a e ∧ k a e = .ok b e' := by
  cases o with
  | ok a e => exact ⟨a, e, rfl, h⟩
  | exc x e => cases h
  | bad => cases h
theorem bind_inv {α β : Type} {f : M α} {k : α → M β} {b : β} {e e' : Sl} (h : (f >>= k) e = .ok b e') : ∃ a e1, f e = .ok a e1 ∧ k a e1 = .ok b e' := then_inv (o := f e) h
theorem lift_inv {α : Type} {o : Option α} {e e' : Sl} {a : α} (h : M.lift o e = .ok a e') : o = some a ∧ e' = e := by
  cases o with
  | none => cases h
  | some b => cases h; exact ⟨rfl, rfl⟩
theorem tset_inv {t : Tg} {d : PyData} {e e' : Sl} {u : Unit} (h : M.tset t d e = .ok u e') : t.set d e = some e' := by
  unfold M.tset at h
  split at h
  · rename_i q; cases h; exact q
  · cases h
mutual
theorem Tg.set_len : ∀ {t : Tg} {d : PyData} {e e' : Sl}, t.set d e = some e' → e'.length = e.length
  | .nm i, d, e, e', h => by
    simp only [Tg.set, Option.some.injEq] at h
    subst h
    exact List.length_set
  | .wk i, d, e, e', h => by
    cases d with
    | tuple ds =>
      simp only [Tg.set, Option.some.injEq] at h
      subst h
      exact List.length_set
    | _ => simp [Tg.set] at h
  | .tp ts, d, e, e', h => by
    cases d with
    | tuple ds => exact Tg.setL_len (show Tg.setL ts ds e = some e' by simpa only [Tg.set] using h)
    | _ => simp [Tg.set] at h
theorem Tg.setL_len : ∀ {ts : List Tg} {ds : List PyData} {e e' : Sl}, Tg.setL ts ds e = some e' → e'.length = e.length
  | [], [], e, e', h => by
    simp only [Tg.setL, Option.some.injEq] at h
    rw [h]
  | [], _ :: _, e, e', h => by simp [Tg.setL] at h
  | _ :: _, [], e, e', h => by simp [Tg.setL] at h
  | t :: ts, d :: ds, e, e', h => by
    simp only [Tg.setL] at h
    obtain ⟨e1, g1, g2⟩ := Option.bind_eq_some_iff.mp h
    rw [Tg.setL_len g2, Tg.set_len g1]
end
theorem wipe_in {τ : St} {i : Nat} : ∀ {vs : List Nat}, i ∈ vs → i < τ.length → (wipe τ vs)[i]? = some none
  | v :: r, hi, hlt => by
    unfold wipe
    by_cases z : v = i
    · subst z; rw [List.getElem?_set_self (by rw [wipe_length]; exact hlt)]
    · rw [List.getElem?_set_ne z]
      exact wipe_in ((List.mem_cons.mp hi).resolve_left fun q => z q.symm) hlt
theorem wipe_ext {σ σ' : St} {vs : List Nat} (h : ∀ i, i ∉ vs → σ'[i]? = σ[i]?) (hl : σ'.length = σ.length) : wipe σ' vs = wipe σ vs := by
  apply List.ext_getElem?
  intro i
  by_cases hi : i ∈ vs
  · by_cases hlt : i < σ.length
    · rw [wipe_in hi hlt, wipe_in hi (by rw [hl]; exact hlt)]
    · rw [List.getElem?_eq_none (by rw [wipe_length, hl]; omega), List.getElem?_eq_none (by rw [wipe_length]; omega)]
  · rw [wipe_out hi, wipe_out hi, h i hi]
/-- the turns of a comprehension; behind the last one the new list stands apart at D -/
theorem lc_run {bq : Bool} {vs : List Nat} {t : Tg} {tt : M Bool} {fe : M PyData} {ds : List PyData} {σ : St} {e eF : Sl} {F : Hp} {P : List (Option Addr)} {S1 H1 : Hp} {J : It} {accF : List PyData} {Q : VK} (hsub : ∀ i ∈ t.slots, i ∈ vs)
    (rel1 : RelE X.K X.mg F P S1 H1 σ e) (wk : Wk X.K J S1 bq ds) (hF : lcGo vs t tt fe ds [] (wipeE e vs) = .ok accF eF)
    (fin : ∀ D S2 H2 acc, RelE X.K X.mg F P S2 H2 (wipe σ vs) eF → Ex S1 S2 → H2 D = some (.lst acc) → S2 D = none → F D = none → Apart (wipe σ vs) eF D → RpAll X.K S2 acc accF → H1 D = none → Q (.ref D) H2) :
    ∀ D, H1 D = none → ∃ W : Nat → Nat → Hp → Prop, (∃ m, W 0 m (upd H1 D (.lst []))) ∧ ∀ i m H, W i m H →
      (J.stop i H ∧ Q (.ref D) H) ∨ (J.go i H ∧ ∃ Nx : Hp → Prop, (∀ H', Nx H' → ∃ m', m' < m ∧ W (i + 1) m' H') ∧ ∀ x H', J.yld i H x H' → tDG X bq t x (wipe σ vs) H' fun σ2 H2 => wipe σ2 vs = wipe σ vs ∧ tDT X W0 tt σ2 H2 fun b H3 =>
        if b = true then tD X W0 fe σ2 H3 fun y H4 => ∃ acc, H4 D = some (.lst acc) ∧ acc.length < sizeLine ∧ Nx (upd H4 D (.lst (acc ++ [y]))) else Nx H3) := by
  intro D hD
  have hS1 : S1 D = none := rel1.sh.back hD
  have hFD : F D = none := rel1.fh.back hD
  have hw : ∀ i, i ∉ vs → (wipe σ vs)[i]? = σ[i]? := fun i hi => wipe_out hi
  have r0 : RelE X.K X.mg F P S1 (upd H1 D (.lst [])) (wipe σ vs) (wipeE e vs) :=
    (rel1.wipe hw (wipe_length σ vs)).grow ⟨Ex.refl S1, rel1.sh.trans (Ex.new hD), (Ex.new hD).n, fun t => t.new hD trivial, id, fun a ps e => ⟨ps, Ex.new hD a _ e⟩, fun b u q1 q2 => by rw [q1] at q2; cases q2⟩
  have a0 : Apart (wipe σ vs) (wipeE e vs) D := (rel1.wipe hw (wipe_length σ vs)).apart hD
  refine ⟨fun i m H => m = ds.length - i ∧ i ≤ ds.length ∧ ∃ S2 e2 acc dacc, RelE X.K X.mg F P S2 H (wipe σ vs) e2 ∧ Ex S1 S2 ∧ H D = some (.lst acc) ∧ S2 D = none ∧ Apart (wipe σ vs) e2 D ∧ RpAll X.K S2 acc dacc ∧
      lcGo vs t tt fe (ds.drop i) dacc e2 = .ok accF eF, ⟨ds.length, by simp, Nat.zero_le _, S1, wipeE e vs, [], [], r0, Ex.refl S1, upd_same, hS1, a0, .nil, by simpa using hF⟩, ?_⟩
  rintro i m H2 ⟨rfl, hi, S2, e2, acc, dacc, rel2, ex2, hD2, hS2, a2, ra, hgo⟩
  by_cases hlt : i < ds.length
  · obtain ⟨d, hd⟩ : ∃ d, ds[i]? = some d := ⟨ds[i], by simp [hlt]⟩
    have hdrop : ds.drop i = d :: ds.drop (i + 1) := by
      rw [List.drop_eq_getElem_cons hlt]
      congr 1
      rw [List.getElem?_eq_getElem hlt] at hd
      exact Option.some.inj hd
    rw [hdrop] at hgo
    unfold lcGo at hgo
    obtain ⟨u, e3, g1, hgo⟩ := bind_inv hgo
    obtain ⟨b, e4, g2, hgo⟩ := bind_inv hgo
    have g1' := tset_inv g1
    refine .inr ⟨wk.goes i H2 hlt (ex2.trans rel2.sh), fun H' => ∃ S2 e2 acc dacc, RelE X.K X.mg F P S2 H' (wipe σ vs) e2 ∧ Ex S1 S2 ∧ H' D = some (.lst acc) ∧ S2 D = none ∧ Apart (wipe σ vs) e2 D ∧ RpAll X.K S2 acc dacc ∧
        lcGo vs t tt fe (ds.drop (i + 1)) dacc e2 = .ok accF eF, fun H' q => ⟨ds.length - (i + 1), by omega, rfl, hlt, q⟩, fun x H' y => ?_⟩
    obtain ⟨S3, gr, rp⟩ := wk.yields i H2 x H' d hd (ex2.trans rel2.sh) y S2 ex2 rel2.sh
    have hD3 : H' D = some (.lst acc) := gr.hh _ _ hD2 (NT.ne (o := .lst _) trivial)
    have hS3 : S3 D = none := by
      cases q : S3 D with
      | none => rfl
      | some u =>
        rcases gr.nw D u hS2 q with z | ⟨z, t⟩
        · rw [z] at hD2; cases hD2
        · rw [z] at hD2; cases hD2; exact absurd t ntLst
    have rel3 := (rel2.grow gr).fram hD3 hS3 a2
    refine ⟨upd F D (.lst acc), P, S3, e2, d, e3, rel3, rp, g1', fun σ3 rel3' hk => ?_⟩
    have hk' : ∀ j, j ∉ vs → σ3[j]? = (wipe σ vs)[j]? := fun j hj => hk j fun z => hj (hsub j z)
    have hl3 : σ3.length = (wipe σ vs).length := rel3'.len.trans ((Tg.set_len g1').trans rel2.len.symm)
    have hww : wipe σ3 vs = wipe σ vs := by
      rw [wipe_ext hk' hl3]
      exact wipe_ext hw (wipe_length σ vs)
    refine ⟨hww, ⟨upd F D (.lst acc), P, S3, e3, rel3', ?_⟩⟩
    rw [g2]
    intro S4 H4 rel4 ex4
    have back : ∀ {S5 H5 : Hp} {e5 : Sl}, RelE X.K X.mg (upd F D (.lst acc)) P S5 H5 σ3 e5 → RelE X.K X.mg (upd F D (.lst acc)) P S5 H5 (wipe σ vs) (wipeE e5 vs) := fun {S5 H5 e5} r =>
      r.wipe (fun j hj => (hk' j hj).symm) hl3.symm
    cases b with
    | true =>
      rw [if_pos rfl] at hgo ⊢
      obtain ⟨yd, e6, g3, hg3⟩ := bind_inv hgo
      obtain ⟨uu, e7, g4, hg4⟩ := bind_inv hg3
      obtain ⟨g5, g7⟩ := lift_inv g4
      rw [g7] at hg4
      obtain ⟨u2, e8, g6, hg6⟩ := bind_inv hg4
      cases g6
      refine ⟨upd F D (.lst acc), P, S4, e4, rel4, ?_⟩
      rw [g3]
      intro v S5 H5 rel5 ex5 rp5
      have hs5 : S5 D = none := rel5.dj.none upd_same ntLst
      refine ⟨acc, rel5.fh _ _ upd_same, ?_, S5, wipeE e6 vs, acc ++ [v], dacc ++ [yd], (back rel5).unfram hFD ntLst, (((ex2.trans gr.ss).trans ex4).trans ex5), upd_same, hs5, (back rel5).apartF upd_same, ?_, hg6⟩
      · have := szOk_le g5
        rw [ra.length]; omega
      · exact (ra.mono ((gr.ss.trans ex4).trans ex5)).append (.one rp5)
    | false =>
      rw [if_neg Bool.false_ne_true] at hgo ⊢
      obtain ⟨u2, e7, g6, hgo⟩ := bind_inv hgo
      cases g6
      have hs4 : S4 D = none := rel4.dj.none upd_same ntLst
      have hd4 : H4 D = some (.lst acc) := rel4.fh _ _ upd_same
      have r5 := (back rel4).unfram (o' := .lst acc) hFD ntLst
      have eH : upd H4 D (.lst acc) = H4 := by
        funext b
        by_cases z : b = D
        · subst z; rw [upd_same, hd4]
        · rw [upd_ne z]
      rw [eH] at r5
      exact ⟨S4, wipeE e4 vs, acc, dacc, r5, (ex2.trans gr.ss).trans ex4, hd4, hs4, (back rel4).apartF upd_same, ra.mono (gr.ss.trans ex4), hgo⟩
  · have ei : i = ds.length := by omega
    subst ei
    rw [List.drop_length] at hgo
    cases hgo
    exact .inl ⟨wk.stops H2 (ex2.trans rel2.sh), fin D S2 H2 acc rel2 ex2 hD2 hS2 hFD a2 ra hD⟩
theorem lc_read {bq : Bool} {vs : List Nat} {t : Tg} {src : M (List PyData)} {tt : M Bool} {fe : M PyData} {σ : St} {H : Hp} {Q : VK} (hsub : ∀ i ∈ t.slots, i ∈ vs) (h : tD X W (src >>= fun ds => mLC vs t tt fe ds) σ H Q) :
    tLc (tDI X W bq src) (tDG X bq t) (tDT X W0 tt) (tD X W0 fe) vs σ H Q := by
  obtain ⟨F, P, S, env, rel, post⟩ := h
  refine ⟨F, P, S, env, rel, Post.step post fun ds e p J S1 H1 rel1 ex1 wk => ?_⟩
  unfold mLC at p
  split at p
  · rename_i hn
    split at p
    · rename_i accF eF hF
      refine lc_run hsub rel1 wk hF fun D S2 H2 acc rel2 ex2 hD2 hS2 hFD a2 ra hD => ?_
      have exD : Ex S2 (upd S2 D (.lst acc)) := Ex.new hS2
      have rk := rel2.keep hD2 hFD a2 hS2
      exact p (.ref D) _ H2 (rk.restore rel1 (ex2.trans exD) (fun i hi => wipe_out hi) (wipe_length σ vs) hn) (ex1.trans (ex2.trans exD)) (.lst upd_same (ra.mono exD))
    · exact p.elim
  · exact p.elim
/-- [elt for tg in iter if ..] -/
theorem de_lc {bq : Bool} {elt tg iter : Expr} {ifs : List Expr} {scope : Scope} {own : List (Str × Nat)} {pos : Pos} {t : Tg} {src : M (List PyData)} {tt : M Bool} {fe : M PyData} (hc : X.calm = true) (hN : X.N.Nodup) (hi : DI X W bq tg iter src) (ok : BlkOk X.N X.env.scope scope own)
    (hg : ∀ (s : Shared) (H : Hp) (C : Addr) (cl : List (Str × Addr)) (fp : List Addr), DG (X.blk s H scope (compEnvC scope cl C X.env) fp) bq tg t)
    (ht : ∀ (s : Shared) (H : Hp) (C : Addr) (cl : List (Str × Addr)) (fp : List Addr), DTs (X.blk s H scope (compEnvC scope cl C X.env) fp) W0 ifs tt)
    (he : ∀ (s : Shared) (H : Hp) (C : Addr) (cl : List (Str × Addr)) (fp : List Addr), DE (X.blk s H scope (compEnvC scope cl C X.env) fp) W0 elt fe)
    (hsub : ∀ i ∈ t.slots, i ∈ own.map (·.2)) (hs : ∀ x, foldedSetIterable iter X.env x = pure x := by intro _; rfl) :
    DE X W (.ListComp elt [⟨tg, iter, ifs, 0⟩] scope pos) (src >>= fun ds => mLC (own.map (·.2)) t tt fe ds) := by
  exact PE_mono (pe_lc (g := tDG X bq t) (tt := tDT X W0 tt) (te := tD X W0 fe) hc hN hi ok hg ht he hs) fun σ H Q h => lc_read hsub h
/-- y = [elt for ..], y a local name -/
theorem ds_setLc {bq : Bool} {i : Nat} {y : Str} {py spos : Pos} {elt tg iter : Expr} {ifs : List Expr} {scope : Scope} {own : List (Str × Nat)} {pos : Pos} {t : Tg} {src : M (List PyData)} {tt : M Bool} {fe : M PyData} (hc : X.calm = true) (hN : X.N.Nodup) (hi : DI X W bq tg iter src) (ok : BlkOk X.N X.env.scope scope own)
    (hg : ∀ (s : Shared) (H : Hp) (C : Addr) (cl : List (Str × Addr)) (fp : List Addr), DG (X.blk s H scope (compEnvC scope cl C X.env) fp) bq tg t)
    (ht : ∀ (s : Shared) (H : Hp) (C : Addr) (cl : List (Str × Addr)) (fp : List Addr), DTs (X.blk s H scope (compEnvC scope cl C X.env) fp) W0 ifs tt)
    (he : ∀ (s : Shared) (H : Hp) (C : Addr) (cl : List (Str × Addr)) (fp : List Addr), DE (X.blk s H scope (compEnvC scope cl C X.env) fp) W0 elt fe)
    (hsub : ∀ i ∈ t.slots, i ∈ own.map (·.2)) (hsw : swapsWith (.ListComp elt [⟨tg, iter, ifs, 0⟩] scope pos) (some (.Name y py)) spos.line X.env = pure true)
    (hy : X.N[i]? = some y := by rfl) (hyl : X.env.scope.names.lookup y = some .local := by rfl) (hs : ∀ x, foldedSetIterable iter X.env x = pure x := by intro _; rfl) :
    DS X W (.Assign [.Name y py] (.ListComp elt [⟨tg, iter, ifs, 0⟩] scope pos) spos) ((src >>= fun ds => mLC (own.map (·.2)) t tt fe ds) >>= fun d => M.setD i d >>= fun _ => pure .nx) := by
  refine PS_mono (ps_setLc (g := tDG X bq t) (tt := tDT X W0 tt) (te := tD X W0 fe) hc hN hy hyl hsw hi ok hg ht he hs) fun D σ H ⟨F, P, S, env, rel, post⟩ => ?_
  refine lc_read (W := W) hsub ⟨F, P, S, env, rel, PostS.stepE post fun d e p v S1 H1 rel1 ex1 rp1 => ?_⟩
  exact p _ S1 H1 (rel1.setD rp1) ex1
/-! the same, to be changed later -/
theorem RelE.setOwn {K : PySem.W.Frag} {F S H : Hp} {P : List (Option Addr)} {σ : St} {env : Sl} {i : Nat} {p : Addr} {xs : List V} {ds : List PyData} (r : RelE K mg F P S H σ env) (hp : H p = some (.lst xs)) (hs : S p = none) (hf : F p = none) (ap : Apart σ env p) (h : RpAll K S xs ds) :
    RelE K mg F P S H (σ.set i (some (.ref p))) (env.set i (some (.lis false ds))) where
  toWd := r.toWd
  len := by simp [r.len]
  ats := fun j s e => by
    by_cases q : i = j
    · subst q
      by_cases hl : i < env.length
      · rw [List.getElem?_set_self hl] at e
        cases e
        exact ⟨p, .lst xs, by rw [List.getElem?_set_self (by rw [r.len]; exact hl)], hp, hs, hf, h, fun z => nomatch z⟩
      · rw [List.getElem?_eq_none (by simpa using hl)] at e; cases e
    · rw [List.getElem?_set_ne q] at e
      exact (r.ats j s e).move (List.getElem?_set_ne q)
  uq := fun j k p' bi di bj dj e1 e2 s1 s2 => by
    have aux : ∀ {j : Nat} {b : Bool} {ds' : Mt}, (env.set i (some (Sv.lis false ds)))[j]? = some (some (.mt b ds')) → (σ.set i (some (V.ref p)))[j]? = some (some (.ref p')) → i = j → p' = p := fun {j b ds'} e s q => by
      subst q
      by_cases hl : i < env.length
      · rw [List.getElem?_set_self (by rw [r.len]; exact hl)] at s; cases s; rfl
      · rw [List.getElem?_eq_none (by simpa using hl)] at e; cases e
    have old : ∀ {j : Nat} {b : Bool} {ds' : Mt}, (env.set i (some (Sv.lis false ds)))[j]? = some (some (.mt b ds')) → (σ.set i (some (V.ref p)))[j]? = some (some (.ref p')) → i ≠ j → p' ≠ p := fun {j b ds'} e s q z => by
      rw [List.getElem?_set_ne q] at e s
      subst z
      exact ap j b ds' e s
    by_cases q1 : i = j
    · by_cases q2 : i = k
      · exact q1.symm.trans q2
      · exact absurd (aux e1 s1 q1) (old e2 s2 q2)
    · by_cases q2 : i = k
      · exact absurd (aux e2 s2 q2) (old e1 s1 q1)
      · rw [List.getElem?_set_ne q1] at e1 s1
        rw [List.getElem?_set_ne q2] at e2 s2
        exact r.uq j k p' bi di bj dj e1 e2 s1 s2
end
end DL
/-! DLg: defs that are called where no repr is under way (guards). -/
namespace DL
open PySem PySem.Spec L2 PyProof.Rows
structure RoomG (k : Nat) (A : Around) : Prop where
  room : Room k A
  gd : A.guards = some []
theorem RoomG.mono {j k : Nat} {A : Around} (r : RoomG k A) (h : j ≤ k) : RoomG j A := ⟨r.room.mono h, r.gd⟩
theorem RoomG.units {k : Nat} {A : Around} (r : RoomG k A) : A.units + 64 < cLine := r.room.units
theorem RoomG.un {k : Nat} {A : Around} (r : RoomG k A) : A.units + 16 * k + 200 < cLine := r.room.un
theorem guards_deeper (A : Around) (env : Env) : (A.deeper env).guards = A.guards := rfl
theorem RoomG.deeper {k : Nat} {A : Around} (r : RoomG (k + 1) A) (env : Env) : RoomG k (A.deeper env) := ⟨r.room.deeper env, (guards_deeper A env).trans r.gd⟩
/-- the code object of the def at f -/
def CdOk (K : PySem.W.Frag) (f : Addr) (cdv : Value) : Prop := ∃ o fd, K.lookup f = some o ∧ o.data = .func fd ∧ fd.code = cdv
structure FnG (P : Program) (w : World) (K : PySem.W.Frag) (mg : Str → Option Value) (base : Heap) (CX : CXT) (k : Nat) (f : Addr) (fd : FuncData) (ps : List Str) (sp : Sp) : Prop where
  len : ∀ vs H Q E, sp vs H Q E → vs.length = ps.length
  run : ∀ (A : Around) (outer : List Env) (s : Shared) (H : Hp) (args : Args) (us : List Value) (vs : List V) (Q : VK) (E : XK),
    RoomG k A → Env0 P w K mg base A outer s H → BindsTo s fd args (ps.zip us) → Vals vs us → sp vs H Q E → codeAny (model P w) A (.call (.ref f) args) (CR CX outer P w H s Q E) s
section
variable {P : Program} {w : World} {K : PySem.W.Frag} {mg : Str → Option Value} {base : Heap} {x qual : Str} {params : Arguments} {body : List Stmt} {scope : Scope} {dvs : List V} {kws : List (Str × V)} {f : Addr} {fd : FuncData} {CX : CXT}
theorem FnG.mono {j k : Nat} {ps : List Str} {sp : Sp} (F : FnG P w K mg base CX j f fd ps sp) (h : j ≤ k) : FnG P w K mg base CX k f fd ps sp := ⟨F.len, fun A outer s H args us vs Q E hr => F.run A outer s H args us vs Q E (hr.mono h)⟩
theorem funG {N ps : List Str} {k : Nat} {sp : Sp} (F : FunD K x qual params body scope dvs kws f fd) (S : FnScope N ps scope) (len : ∀ vs H Q E, sp vs H Q E → vs.length = ps.length)
    (hbody : ∀ (cdv : Value) (A : Around) (outer : List Env) (s : Shared) (H : Hp) (vs : List V) (Q : VK) (E : XK), CdOk K f cdv → RoomG k (A.deeper (envOfC qual scope s.heap.objs.size f cdv)) → sp vs H Q E →
      ∃ t, PSs (cxOf CX P w K mg base N qual scope f cdv A outer s H E) body t ∧ t { nx := fun _ H' => Q .non H', rt := Q } (start N vs) H) : FnG P w K mg base CX (k + 1) f fd ps sp := by
  obtain ⟨oc, od, dV, kV, doc, pm, an, cdv, ct, osl, rfl, lk, hcd, _, _⟩ := F.ex
  refine ⟨len, fun A outer s H args us vs Q E hg e0 hb r hsp => ?_⟩
  have hr := hg.room
  have up : ∀ b o, base.get? b = some o → s.heap.get? b = some o := fun b o e => (e0.bs b o e).1
  have KX : K.In s.heap := e0.mod.kin.keeps up
  have lim : s.heap.NoLimit := e0.mod.nolimit.keeps up
  have kinds : ∀ y ∈ ps.zip us, scope.names.lookup y.1 = some .local ∨ (scope.names.lookup y.1 = some .cell ∧ ((cellsFrom (s.heap.objs.size + 1) scope.names []).lookup y.1).isSome = true) := by
    rintro ⟨n, v⟩ hy
    exact (S.par n (List.of_mem_zip hy).1).imp id fun q => ⟨q, PySem.W.cellsFrom_some _ _ _ (.inl q)⟩
  refine codeAny_call_function hr.depth (KX _ _ lk) rfl S.co S.gen rfl (PySem.W.codeRec_of KX hcd) (hb _ _ _ _ (wpAny_newFunctionEnv_cells S.kind kinds fun env he s1 z => ?_))
  subst he
  obtain ⟨t, ht, hq⟩ := hbody cdv A outer s H vs Q E ⟨_, _, lk, rfl, rfl⟩ (hg.deeper _) hsp
  refine ⟨lim.keeps z.toInCall.keep, codeAny_func (wpAny_mono (ht.run [] s1 (start N vs) H _ (inv_start S hr.hd e0 (len _ _ _ _ hsp) r z) hq) ?_ fun e s' hs => hs)⟩
  rintro (_ | _ | _ | u) s' hs
  · obtain ⟨σ', H', J, q⟩ := hs
    exact ⟨.non, H', J.os, J.bare, J.base, J.hok, rfl, q⟩
  · obtain ⟨_, _, _, q⟩ := hs; exact q.elim
  · obtain ⟨_, _, _, q⟩ := hs; exact q.elim
  · obtain ⟨v, σ', H', J, rv, q⟩ := hs
    exact ⟨v, H', J.os, J.bare, J.base, J.hok, rv, q⟩
end
section
variable {X : Cx} {CX : CXT} {k : Nat} {f : Addr} {fd : FuncData} {ps : List Str} {sp : Sp} {dvs : List V} {ds : List Value} {E : L2.St → XK} {x : Str} {p pos : Pos} {e : Expr} {es : List Expr} {t : TA}
theorem call_fnG {pins : List (Addr × Obj)} {σ : L2.St} {H : Hp} {s : Shared} {Q : VK} {us : List Value} {vs : List V} (F : FnG X.prog X.w X.K X.mg X.base CX k f fd ps sp) (hr : RoomG k X.A) (hb : Binds X.K fd ps ds) (hd : Vals dvs ds) (hx : PassesAt CX X σ (E σ)) (I : Inv X pins σ H s) (r : Vals vs us) (h : sp (vs ++ dvs) H Q (E σ)) :
    wpAny (model X.prog X.w) X.A (call (.ref f) us) (EP X pins σ Q) X.xe s := by
  have rr : Vals (vs ++ dvs) (us ++ ds) := r.append hd
  have hl : (us ++ ds).length = ps.length := rr.length ▸ F.len _ _ _ _ h
  refine wpAny_call (codeAny_mono (F.run X.A X.stack s H ⟨us, []⟩ (us ++ ds) (vs ++ dvs) Q (E σ) hr I.env0 (hb s us I.kIn hl) rr h) ?_)
  rintro (e | (_ | _ | _ | u)) s' hq
  · exact hx pins H s e s' I hq
  · exact hq.elim
  · exact hq.elim
  · exact hq.elim
  · exact I.after hq
theorem pe_callG (F : FnG X.prog X.w X.K X.mg X.base CX k f fd ps sp) (hr : RoomG k X.A) (hg : Gl X x) (hm : X.mg x = some (.ref f)) (hk : PySem.W.keepIn X.K (.ref f) = true) (hb : Binds X.K fd ps ds) (hd : Vals dvs ds) (hx : ∀ σ, PassesAt CX X σ (E σ)) (ha : PA X (e :: es) t)
    (hdb : (x == ("__debug__" : Str)) = false := by decide) (he : starEach (e :: es) X.env = (false, eval e X.env) :: starEach es X.env := by rfl) (hpl : (backTo pos (starEach es X.env)).any (·.1) = false := by rfl) : PE X (.Call (.Name x p) (e :: es) [] pos) (tCallSD sp dvs E t) :=
  ⟨fun pins s σ H Q I h => wpAny_Call_Name_kw (ld_glob I hg hm (PySem.W.callWith_K (h₀ := X.base) I.ok.mod.kin hk (thn (ha.run pos pins s σ H _ I h) fun us s1 ⟨vs, H1, I1, r, q⟩ => ⟨I1.kIn, call_fnG F hr hb hd (hx σ) I1 r q⟩) he hpl) hdb)⟩
end
/-- what the making of a lambda asks of the tables -/
def TbB (K : PySem.W.Frag) (mg : Str → Option Value) (base : Heap) : Prop := ∀ p ∈ tbK K, base.BuiltinsAt mg p.1 ∧ mainGlobals ≠ p.1
/-- the law's call -/
theorem law_callG {P : Program} {w : World} {K : PySem.W.Frag} {mg mb : Str → Option Value} {k : Nat} {fa a : Addr} {fd : FuncData} {x : Str} {sp : Sp} {s₁ : Shared} {vs : List Value} {ns : List Int}
    (KX : K.In s₁.heap) (hns : s₁.heap.Ns mainGlobals mg) (hb : s₁.heap.Ns builtinsNs mb) (hbb : ∀ x : Str, x ≠ "__name__" → mb x = bootBuiltins x) (hlim : s₁.heap.NoLimit) (hg : s₁.gens = #[])
    (hT : ∀ p ∈ tbK K, s₁.heap.get? p.1 = some { cls := .none, data := .fields #[] }) (hC : ∀ p ∈ tbK K, ∃ c, PySem.W.CodeHd s₁.heap c p.1)
    (hbm : ∃ (bm : Addr) (ob : Obj), mg "__builtins__" = some (.ref bm) ∧ bm ≠ builtinsNs ∧ s₁.heap.get? bm = some ob ∧ ob.cls = .type "module" ∧ ob.dict = some builtinsNs ∧ ob.data = .plain)
    (ha : s₁.heap.get? a = some { cls := .type "list", data := .seq vs.toArray }) (hi : IntsAre vs ns) (hl : ns.length ≤ sizeLine) (hr : RoomG k callerA)
    (F : ∀ base : Heap, K.In base → base.Ns mainGlobals mg → TbB K mg base → FnG P w K mg base CX0 k fa fd [x] sp) (hbind : ∀ (s : Shared) (u : Value), BindsTo s fd ⟨[u], []⟩ [(x, u)])
    (hsp : ∀ H : Hp, TbH K H → SqL K H a (ns.map V.int) → sp [.ref a] H (fun v _ => v = .bl true) fun _ _ _ => False) :
    codeAny (model P w) callerA (.call (.ref fa) ⟨[.ref a], []⟩) (fun r s' => r = .ok (.ret (.bool true)) ∧ OldK s₁.heap s'.heap ∧ s'.os = s₁.os ∧ AllBare s'.gens) s₁ := by
  have rv := vals_ints hi
  have isT : ∀ {b : Addr}, b ∈ (tbK K).map Prod.fst → s₁.heap.get? b = some { cls := .none, data := .fields #[] } := by
    intro b hb
    obtain ⟨p, hp, rfl⟩ := List.mem_map.mp hb
    exact hT p hp
  have noK : ∀ {b : Addr}, b ∈ (tbK K).map Prod.fst → K.lookup b = none := by
    intro b hb
    obtain ⟨p, hp, rfl⟩ := List.mem_map.mp hb
    obtain ⟨_, _, _, _, _, _, _, _, h, _⟩ := tbK_mem hp
    exact tabAt_none h
  have aT : a ∉ (tbK K).map Prod.fst := fun z => by
    have q := isT z
    rw [ha] at q
    exact nomatch (congrArg Obj.data (Option.some.inj q) : Data.seq vs.toArray _ = Data.fields #[])
  have go : ∀ H : Hp, TbH K H → SqL K H a (ns.map V.int) → HOk P w H s₁.heap → (∀ b u, H b = some u → (b = a ∧ K.lookup a = none ∧ ∃ o xs, u = .frz o (.lst xs)) ∨ (b ∈ (tbK K).map Prod.fst ∧ u = .tbl #[])) →
      codeAny (model P w) callerA (.call (.ref fa) ⟨[.ref a], []⟩) (fun r s' => r = .ok (.ret (.bool true)) ∧ OldK s₁.heap s'.heap ∧ s'.os = s₁.os ∧ AllBare s'.gens) s₁ := by
    intro H tb hS hok hO
    have free : ∀ {b : Addr} {o : Obj}, s₁.heap.get? b = some o → (∀ us n, o.data ≠ .seq us n) → o.data ≠ .fields #[] → H b = none := fun {b o} e n1 n2 => by
      cases q : H b with
      | none => rfl
      | some u =>
        rcases hO b u q with ⟨rfl, _, _⟩ | ⟨hb, _⟩
        · rw [ha] at e; cases e; exact (n1 _ _ rfl).elim
        · rw [isT hb] at e; cases e; exact (n2 rfl).elim
    have keep : ∀ {b : Addr} {m : Str → Option Value}, s₁.heap.Ns b m → (hidT s₁.heap H).Ns b m := by
      rintro b m ⟨o, es, ep, e, d, r⟩
      exact ⟨o, es, ep, hidT_get e (free e (fun us n z => by rw [d] at z; cases z) (fun z => by rw [d] at z; cases z)), d, r⟩
    have hKb : K.In (hidT s₁.heap H) := by
      intro b o e
      refine hidT_get (KX b o e) ?_
      cases q : H b with
      | none => rfl
      | some u =>
        rcases hO b u q with ⟨rfl, z, _⟩ | ⟨hb, _⟩
        · rw [z] at e; cases e
        · rw [noK hb] at e; cases e
    have TB : TbB K mg (hidT s₁.heap H) := fun p hp => by
      have hTp := hT p hp
      refine ⟨?_, fun z => ?_⟩
      · obtain ⟨bm, ob, b1, b2, b3, b4, b5, b6⟩ := hbm
        refine ⟨bm, ob, b1, b2, fun q => ?_, fun q => ?_, hidT_get b3 (free b3 (fun us n z => by rw [b6] at z; cases z) (fun z => by rw [b6] at z; cases z)), b4, b5, b6⟩
        · obtain ⟨o, es, ep, e, hd, _⟩ := hns
          rw [q, e] at b3; cases b3
          rw [hd] at b6; cases b6
        · rw [q, hTp] at b3; cases b3; cases b6
      · obtain ⟨o, es, ep, e, hd, _⟩ := hns
        rw [z, hTp] at e; cases e; cases hd
    have hns0 := hns
    obtain ⟨mc, l1, l2⟩ := hlim
    have e0 : Env0 P w K mg (hidT s₁.heap H) callerA [] s₁ H :=
      ⟨rfl, ⟨hKb, keep hns, ⟨mb, keep hb, hbb⟩, ⟨mc, keep l1, l2⟩⟩, fun b o e => of_hidT e, Nat.le_of_eq (hidT_size _ _), trivial, (fun b hb => nomatch hb), hok, .of_eq hg⟩
    refine codeAny_mono ((F _ hKb (keep hns0) TB).run callerA [] s₁ H ⟨[.ref a], []⟩ [.ref a] [.ref a] _ _ hr e0 (hbind s₁ (.ref a)) (.cons rfl .nil) (hsp H tb hS)) ?_
    rintro (e | (_ | _ | _ | u)) s' h
    · exact h.elim
    · exact h.elim
    · exact h.elim
    · exact h.elim
    · obtain ⟨v, H', os, bare, un, hok', r', q⟩ := h
      obtain rfl : v = .bl true := q
      obtain rfl : u = Value.bool true := r'
      have key : ∀ b o, b ∉ (tbK K).map Prod.fst → s₁.heap.get? b = some o → s'.heap.get? b = some o := fun b o nb e => by
        cases q : H b with
        | none => exact un.keep b o e q (fun z => nomatch z) (fun z => nomatch z)
        | some u =>
          rcases hO b u q with ⟨_, _, ob, xs, rfl⟩ | ⟨hb, _⟩
          · obtain ⟨e1, _⟩ := hok b _ q
            obtain ⟨e2, _⟩ := hok' b _ (un.frzs b ob _ q)
            rw [e] at e1; cases e1
            exact e2
          · exact absurd hb nb
      have grown : ∀ p ∈ tbK K, ∃ more : Array Value, s'.heap.get? p.1 = some { cls := .none, data := .fields more } := fun p hp => by
        obtain ⟨ps, z, _⟩ := tb.ok p hp
        obtain ⟨more, z'⟩ := un.tbls p.1 ps z
        exact ⟨_, hok' p.1 _ z'⟩
      refine ⟨rfl, ⟨fun b o e => ?_, fun b o e => ?_⟩, os, bare⟩
      · by_cases hb : b ∈ (tbK K).map Prod.fst
        · obtain ⟨p, hp, rfl⟩ := List.mem_map.mp hb
          obtain ⟨more, hm⟩ := grown p hp
          obtain ⟨c, C⟩ := hC p hp
          rw [hT p hp] at e; cases e
          exact .inr (.inl ⟨(C.tab (hT p hp)).isCodeTable, rfl, #[], more, rfl, by rw [Array.empty_append]; exact hm⟩)
        · exact .inl (key b o hb e)
      · by_cases hb : b ∈ (tbK K).map Prod.fst
        · obtain ⟨p, hp, rfl⟩ := List.mem_map.mp hb
          obtain ⟨more, hm⟩ := grown p hp
          exact ⟨_, hm⟩
        · exact ⟨o, key b o hb e⟩
  have hlen := hi.length
  have tbs : ∀ H : Hp, (∀ b ∈ (tbK K).map Prod.fst, H b = some (.tbl #[])) → (∀ b ps, H b = some (.tbl ps) → b ∈ (tbK K).map Prod.fst) → TbH K H := fun H h1 h2 =>
    ⟨fun p hp => LamX.TabS.nil (h1 p.1 (List.mem_map.mpr ⟨p, hp, rfl⟩)), h2⟩
  cases hk : K.lookup a with
  | some o =>
    have e := KX a o hk
    rw [ha] at e
    cases e
    refine go (fun b => if b ∈ (tbK K).map Prod.fst then some (.tbl #[]) else none) (tbs _ (fun b hb => if_pos hb) fun b ps z => ?_) (.inr ⟨_, vs.toArray, _, hk, rfl, rfl, rfl, by rw [List.size_toArray, hlen]; exact hl, by simpa using rv⟩) (fun b u z => ?_) (fun b u z => ?_)
    · by_cases q : b ∈ (tbK K).map Prod.fst
      · exact q
      · rw [if_neg q] at z; cases z
    · replace z : (if b ∈ (tbK K).map Prod.fst then some (HO.tbl #[]) else none) = some u := z
      by_cases q : b ∈ (tbK K).map Prod.fst
      · rw [if_pos q] at z; cases z; exact isT q
      · rw [if_neg q] at z; cases z
    · replace z : (if b ∈ (tbK K).map Prod.fst then some (HO.tbl #[]) else none) = some u := z
      by_cases q : b ∈ (tbK K).map Prod.fst
      · rw [if_pos q] at z; cases z; exact .inr ⟨q, rfl⟩
      · rw [if_neg q] at z; cases z
  | none =>
    have e1 : ∀ {b : Addr} {u : HO}, (if b = a then some (HO.frz { cls := .type "list", data := .seq vs.toArray } (.lst (ns.map V.int))) else if b ∈ (tbK K).map Prod.fst then some (.tbl #[]) else none) = some u →
        (b = a ∧ u = .frz { cls := .type "list", data := .seq vs.toArray } (.lst (ns.map V.int))) ∨ (b ∈ (tbK K).map Prod.fst ∧ u = .tbl #[]) := fun {b u} z => by
      by_cases q : b = a
      · rw [if_pos q] at z; cases z; exact .inl ⟨q, rfl⟩
      · rw [if_neg q] at z
        by_cases q2 : b ∈ (tbK K).map Prod.fst
        · rw [if_pos q2] at z; cases z; exact .inr ⟨q2, rfl⟩
        · rw [if_neg q2] at z; cases z
    refine go (fun b => if b = a then some (.frz { cls := .type "list", data := .seq vs.toArray } (.lst (ns.map V.int))) else if b ∈ (tbK K).map Prod.fst then some (.tbl #[]) else none) (tbs _ (fun b hb => ?_) fun b ps z => ?_) (.inl (.inr ⟨_, if_pos rfl⟩)) (fun b u z => ?_) (fun b u z => ?_)
    · have : b ≠ a := fun q => aT (q ▸ hb)
      show (if b = a then _ else _) = _
      rw [if_neg this, if_pos hb]
    · rcases e1 z with ⟨_, q⟩ | ⟨q, _⟩
      · cases q
      · exact q
    · rcases e1 z with ⟨rfl, rfl⟩ | ⟨q, rfl⟩
      · exact ⟨ha, by rw [List.length_map]; exact hl, vs, _, rv, ha⟩
      · exact isT q
    · rcases e1 z with ⟨rfl, rfl⟩ | ⟨q, rfl⟩
      · exact .inl ⟨rfl, hk, _, _, rfl⟩
      · exact .inr ⟨q, rfl⟩
/-- the defs of lamDefs that stand in K are among those that are looked at -/
def lamIn (K : PySem.W.Frag) (names : List Str) : Bool := lamDefs.all fun x => match PySem.W.nsIn K mainGlobals x with
  | some (some (.ref _)) => names.contains x
  | _ => true
theorem lamIn_ok {K : PySem.W.Frag} {names : List Str} (h : lamIn K names = true) {x : Str} {a : Addr} (hx : x ∈ lamDefs) (e : PySem.W.nsIn K mainGlobals x = some (some (.ref a))) : x ∈ names := by
  have := List.all_eq_true.mp h x hx
  rw [e] at this
  simpa using this
theorem walkG {l : PySem.W.OpenLaw} {n k : Nat} {q : Program} {loose names : List Str} {XP : (Str → Option Value) → Heap → Prop} {YP : World → Heap → Prop} {d : DefRec} {x : Str}
    (hn : l.most = some n) (hn2 : n ≤ sizeLine) (hdf : d.params.defaults = []) (hr : RoomG k callerA) (hq : (names.all fun y => (recsOf q).any fun e => e.name == y) = true)
    (F : ∀ (w : World) (mg : Str → Option Value) (fa : Addr) (h : Heap), YP w h → h.Ns mainGlobals mg → mg d.name = some (.ref fa) →
      ∃ (K : PySem.W.Frag) (fd : FuncData) (sp : Sp), K.In h ∧ lamIn K names = true ∧ (∀ (s : Shared) (u : Value), BindsTo s fd ⟨[u], []⟩ [(x, u)]) ∧
        (∀ (H : Hp) (a : Addr) (ns : List Int), ns.length ≤ n → TbH K H → SqL K H a (ns.map V.int) → sp [.ref a] H (fun v _ => v = .bl true) fun _ _ _ => False) ∧ ∀ base : Heap, K.In base → base.Ns mainGlobals mg → TbB K mg base → FnG l.prog w K mg base CX0 k fa fd [x] sp) :
    PySem.W.WalkO q loose XP YP l.row.toRowW d [] (fun f vs => PySem.call f vs) := by
  refine Att.attach_call hn hdf fun w s₀ s₁ mg mb fa o pm cd doc a vs ns G Y ho hd hcd hmg hobj hints hlen hg => ?_
  obtain ⟨K, fd, sp, KX, hla, hb, hsp, hF⟩ := F w mg fa _ Y G.T.g hmg
  have code : ∀ p ∈ tbK K, ∃ c, PySem.W.CodeHd s₁.heap c p.1 := fun p hp => by
    obtain ⟨_, _, _, fd1, _, _, _, _, h, _⟩ := tbK_mem hp
    cases hc : fd1.code with
    | ref c => rw [hc] at h; exact ⟨c, tabAt_code h KX⟩
    | _ => rw [hc] at h; cases h
  refine law_callG KX G.T.g G.T.b G.T.builtins G.T.nolimit hg (fun p hp => ?_) code G.T.bmain hobj hints (Nat.le_trans hlen hn2) hr hF hb fun H tb hS => hsp H a ns hlen tb hS
  obtain ⟨y, a1, o1, fd1, hy, h1, h2, h3, h4, _⟩ := tbK_mem hp
  have hin := lamIn_ok hla hy h1
  have hany := List.all_eq_true.mp hq y hin
  obtain ⟨dL, hm, hn1⟩ := List.any_eq_true.mp hany
  have hnm : dL.name = y := beq_iff_eq.mp hn1
  obtain ⟨a', o', fd', c', P', g1, g2, g3, g4, g5, g6⟩ := G.T.tab dL hm
  rw [hnm, PySem.W.mg_of KX G.T.g h1] at g1
  cases g1
  rw [KX _ _ h2] at g2
  cases g2
  rw [h3] at g3
  cases g3
  rw [g4] at h4
  obtain ⟨_, vs', _, _, _, _, _, _, _, f1, _, f3, f4, _⟩ := tabAt_code h4 KX
  obtain ⟨⟨oc, vc, e1, _, e3, e4⟩, hP⟩ := g6
  rw [f1] at e1
  cases e1
  rw [f3] at e3
  cases e3
  rw [f4] at e4
  cases e4
  exact hP
end DL
namespace DL
open PySem L2

/-! ### defs -/
inductive Res (α : Type) where
  | ok (a : α)
  | exc (x : Exn)
  | bad
def M.ofRes {α : Type} (r : Res α) : M α := fun e => match r with
  | .ok a => .ok a e
  | .exc x => .exc x e
  | .bad => .bad
def startE (N : Nat) (ss : List Sv) : Sl := ss.map some ++ List.replicate (N - ss.length) none
section
variable (K : PySem.W.Frag) (mg : Str → Option Value)
def RetA (F S : Hp) (Q : VK) (E : XK) : Res PyData → Prop
  | .ok d => ∀ v S' H', Ex S S' → Wd K F S' H' → Rp K S' v d → Q v H'
  | .exc x => ∀ cls dd S' H', Ex S S' → Wd K F S' H' → RelX mg H' x cls dd → E cls dd H'
  | .bad => False
/-- a def from data to data -/
def spA (g : List PyData → Res PyData) : Sp := fun vs H Q E => ∃ F S ds, Wd K F S H ∧ RpAll K S vs ds ∧ RetA K mg F S Q E (g ds)
def RetL (F S : Hp) (Q : VK) (E : XK) : Res (List PyData) → Prop
  | .ok ds => ∀ p xs S' H', Ex S S' → Wd K F S' H' → H' p = some (.lst xs) → S' p = none → F p = none → RpAll K S' xs ds → Q (.ref p) H'
  | .exc x => ∀ cls dd S' H', Ex S S' → Wd K F S' H' → RelX mg H' x cls dd → E cls dd H'
  | .bad => False
/-- .. to a new list -/
def spL (g : List PyData → Res (List PyData)) : Sp := fun vs H Q E => ∃ F S ds, Wd K F S H ∧ RpAll K S vs ds ∧ RetL K mg F S Q E (g ds)
def RetP (F S : Hp) (p : Addr) (Q : VK) : Res (PyData × List PyData) → Prop
  | .ok (d, cs') => ∀ v xs' S' H', Ex S S' → Wd K F S' H' → H' p = some (.lst xs') → S' p = none → RpAll K S' xs' cs' → Rp K S' v d → Q v H'
  | _ => False
/-- .. whose first argument is a list that it changes -/
def spP (g : List PyData → List PyData → Res (PyData × List PyData)) : Sp := fun vs H Q _ => ∃ F S p xs cs rest ds, vs = .ref p :: rest ∧ H p = some (.lst xs) ∧ S p = none ∧ F p = none ∧ RpAll K S xs cs ∧
  Wd K F S H ∧ RpAll K S rest ds ∧ RetP K F S p Q (g cs ds)
/-- .. whose first argument is the script -/
def spC (g : List PyData → List PyData → Res PyData) : Sp := fun vs H Q E => ∃ F S p xs cs rest ds, vs = .ref p :: rest ∧ SqL K S p xs ∧ RpAll K S xs cs ∧
  Wd K F S H ∧ RpAll K S rest ds ∧ RetA K mg F S Q E (g cs ds)
end
def runA (n N : Nat) (f : M Fl) (ds : List PyData) : Res PyData := if ds.length = n then
    match f (startE N (ds.map .dat)) with
    | .ok (.rt d) _ => .ok d
    | .ok .nx _ => .ok .none
    | .exc x _ => .exc x
    | _ => .bad
  else .bad
def runL (n N : Nat) (f : M Fl) (ds : List PyData) : Res (List PyData) := if ds.length = n then
    match f (startE N (ds.map .dat)) with
    | .ok (.rl d) _ => .ok d
    | .exc x _ => .exc x
    | _ => .bad
  else .bad
def runP (n N : Nat) (f : M Fl) (cs ds : List PyData) : Res (PyData × List PyData) := if ds.length = n then
    match f (startE N (.lis true cs :: ds.map .dat)) with
    | .ok (.rt d) e => match (e[0]? : Option (Option Sv)) with
      | some (some (.mt true (.lst cs'))) => .ok (d, cs')
      | _ => .bad
    | .ok .nx e => match (e[0]? : Option (Option Sv)) with
      | some (some (.mt true (.lst cs'))) => .ok (.none, cs')
      | _ => .bad
    | _ => .bad
  else .bad
def runC (n N : Nat) (f : M Fl) (cs ds : List PyData) : Res PyData := if ds.length = n then
    match f (startE N (.frz cs :: ds.map .dat)) with
    | .ok (.rt d) _ => .ok d
    | .ok .nx _ => .ok .none
    | .exc x _ => .exc x
    | _ => .bad
  else .bad
section
variable {K : PySem.W.Frag} {mg : Str → Option Value} {F : Hp} {P : List (Option Addr)} {S H : Hp} {N : List Str} {vs : List V}
theorem start_get {i : Nat} {ss : List Sv} {s : Sv} (h : (startE N.length ss)[i]? = some (some s)) (hl : vs.length = ss.length) : ss[i]? = some s ∧ (L2.start N vs)[i]? = vs[i]?.map some := by
  unfold startE at h
  by_cases hi : i < ss.length
  · rw [List.getElem?_append_left (by simpa using hi), List.getElem?_map] at h
    obtain ⟨s', h1, h2⟩ := Option.map_eq_some_iff.mp h
    cases h2
    refine ⟨h1, ?_⟩
    unfold L2.start
    rw [List.getElem?_append_left (by simpa [hl] using hi), List.getElem?_map]
  · rw [List.getElem?_append_right (by simpa using hi), List.getElem?_replicate] at h
    split at h <;> cases h
theorem relE_start {ss : List Sv} (wd : Wd K F S H) (hl : vs.length = ss.length) (hN : ss.length ≤ N.length)
    (hat : ∀ (i : Nat) (s : Sv) (v : V), ss[i]? = some s → vs[i]? = some v → SvOk K mg F P S H (vs.map some) i s) (hu : ∀ (i j : Nat) (b : Bool) (d : Mt) (b' : Bool) (d' : Mt), ss[i]? = some (.mt b d) → ss[j]? = some (.mt b' d') → i = j) : RelE K mg F P S H (L2.start N vs) (startE N.length ss) where
  toWd := wd
  len := by unfold L2.start startE; simp [hl]
  ats := fun i s e => by
    obtain ⟨h1, h2⟩ := start_get (N := N) e hl
    have hi : i < vs.length := by rw [hl]; exact (List.getElem?_eq_some_iff.mp h1).1
    refine (hat i s vs[i] h1 (by simp [hi])).move ?_
    rw [h2, List.getElem?_map]
  uq := fun i j p bi di bj dj e1 e2 s1 s2 => hu i j _ _ _ _ (start_get (N := N) (vs := vs) e1 hl).1 (start_get (N := N) (vs := vs) e2 hl).1
theorem RpAll.svs {ds : List PyData} (h : RpAll K S vs ds) : ∀ (i : Nat) (s : Sv) (v : V), (ds.map Sv.dat)[i]? = some s → vs[i]? = some v → SvOk K mg F P S H (vs.map some) i s := fun i s v e1 e2 => by
  rw [List.getElem?_map] at e1
  obtain ⟨d, h1, rfl⟩ := Option.map_eq_some_iff.mp e1
  obtain ⟨w, h2, h3⟩ := h.get' h1
  rw [e2] at h2; cases h2
  exact ⟨v, by rw [List.getElem?_map, e2]; rfl, h3⟩
end
section
variable {P : Program} {w : World} {K : PySem.W.Frag} {mg : Str → Option Value} {base : Heap}
theorem pre_le {N ps : List Str} {sc : Scope} (S : FnScope N ps sc) : ps.length ≤ N.length := by
  have := congrArg List.length S.pre
  rw [List.length_take] at this
  omega
abbrev WD (E : XK) : WX := fun cls d _ H => E cls d H
theorem cx_def {CXN : List Str} {qual : Str} {scope : Scope} {f : Addr} {cd : Value} {A : Around} {outer : List Env} {s : Shared} {H : Hp} {E : XK} : Ctx (cxOf (L2.CX P w) P w K mg base CXN qual scope f cd A outer s H E) (WD E) := ⟨takes_of rfl rfl rfl rfl, passes_of rfl⟩
abbrev Body (P : Program) (w : World) (K : PySem.W.Frag) (mg : Str → Option Value) (base : Heap) (N : List Str) (k : Nat) (qual : Str) (st : Stmt) (f : Addr) (b : M Fl) : Prop :=
  ∀ (cdv : Value) (A : Around) (outer : List Env) (s : Shared) (H : Hp) (E : XK), CdOk K f cdv → RoomG k (A.deeper (PyProof.Rows.envOfC qual (defScope st) s.heap.objs.size f cdv)) → DSs (cxOf (L2.CX P w) P w K mg base N qual (defScope st) f cdv A outer s H E) (WD E) (defBody st) b
theorem fnA {x qual : Str} {st : Stmt} {dvs : List V} {kws : List (Str × V)} {f : Addr} {fd : FuncData} {N ps : List Str} {k : Nat} {b : M Fl} (Fn : FunD K x qual (defArgs st) (defBody st) (defScope st) dvs kws f fd) (Sc : FnScope N ps (defScope st)) (body : Body P w K mg base N k qual st f b) :
    FnG P w K mg base (L2.CX P w) (k + 1) f fd ps (spA K mg (runA ps.length N.length b)) := by
  refine funG (CX := L2.CX P w) Fn Sc (fun vs H Q E h => ?_) (fun cdv A outer s H vs Q E cd hr h => ⟨_, body cdv A outer s H E cd hr, ?_⟩)
  · obtain ⟨F, S, ds, _, r, q⟩ := h
    unfold runA at q
    split at q
    · rename_i hl; rw [r.length, hl]
    · exact q.elim
  · obtain ⟨F, S, ds, wd, r, q⟩ := h
    unfold runA at q
    split at q
    · rename_i hl
      have rel : RelE K mg F [] S H (L2.start N vs) (startE N.length (ds.map .dat)) := relE_start wd (by simp [r.length]) (by simpa [hl] using pre_le Sc) r.svs (fun i j _ _ _ _ e1 _ => by
        rw [List.getElem?_map] at e1; obtain ⟨_, _, z⟩ := Option.map_eq_some_iff.mp e1; cases z)
      refine ⟨F, [], S, _, rel, ?_⟩
      cases hb : b (startE N.length (ds.map .dat)) with
      | bad => rw [hb] at q; exact q.elim
      | exc x e => rw [hb] at q; exact fun σ' cls dd S' H' r' ex rx => q cls dd S' H' ex r'.toWd rx
      | ok fl e =>
        rw [hb] at q
        cases fl with
        | rt d => exact fun v σ' S' H' r' ex rp => q v S' H' ex r'.toWd rp
        | nx => exact fun σ' S' H' r' ex => q .non S' H' ex r'.toWd .non
        | bk => exact q.elim
        | ct => exact q.elim
        | rl d => exact q.elim
    · exact q.elim
theorem fnL {x qual : Str} {st : Stmt} {dvs : List V} {kws : List (Str × V)} {f : Addr} {fd : FuncData} {N ps : List Str} {k : Nat} {b : M Fl} (Fn : FunD K x qual (defArgs st) (defBody st) (defScope st) dvs kws f fd) (Sc : FnScope N ps (defScope st)) (body : Body P w K mg base N k qual st f b) :
    FnG P w K mg base (L2.CX P w) (k + 1) f fd ps (spL K mg (runL ps.length N.length b)) := by
  refine funG (CX := L2.CX P w) Fn Sc (fun vs H Q E h => ?_) (fun cdv A outer s H vs Q E cd hr h => ⟨_, body cdv A outer s H E cd hr, ?_⟩)
  · obtain ⟨F, S, ds, _, r, q⟩ := h
    unfold runL at q
    split at q
    · rename_i hl; rw [r.length, hl]
    · exact q.elim
  · obtain ⟨F, S, ds, wd, r, q⟩ := h
    unfold runL at q
    split at q
    · rename_i hl
      have rel : RelE K mg F [] S H (L2.start N vs) (startE N.length (ds.map .dat)) := relE_start wd (by simp [r.length]) (by simpa [hl] using pre_le Sc) r.svs (fun i j _ _ _ _ e1 _ => by
        rw [List.getElem?_map] at e1; obtain ⟨_, _, z⟩ := Option.map_eq_some_iff.mp e1; cases z)
      refine ⟨F, [], S, _, rel, ?_⟩
      cases hb : b (startE N.length (ds.map .dat)) with
      | bad => rw [hb] at q; exact q.elim
      | exc x e => rw [hb] at q; exact fun σ' cls dd S' H' r' ex rx => q cls dd S' H' ex r'.toWd rx
      | ok fl e =>
        rw [hb] at q
        cases fl with
        | rl d => exact fun p xs σ' S' H' r' ex hp hs hf _ rp => q p xs S' H' ex r'.toWd hp hs hf rp
        | nx => exact q.elim
        | bk => exact q.elim
        | ct => exact q.elim
        | rt d => exact q.elim
    · exact q.elim
theorem fnP {x qual : Str} {st : Stmt} {dvs : List V} {kws : List (Str × V)} {f : Addr} {fd : FuncData} {N ps : List Str} {n k : Nat} {b : M Fl} (Fn : FunD K x qual (defArgs st) (defBody st) (defScope st) dvs kws f fd) (Sc : FnScope N ps (defScope st)) (hn : ps.length = n + 1) (body : Body P w K mg base N k qual st f b) :
    FnG P w K mg base (L2.CX P w) (k + 1) f fd ps (spP K (runP n N.length b)) := by
  refine funG (CX := L2.CX P w) Fn Sc (fun vs H Q E h => ?_) (fun cdv A outer s H vs Q E cd hr h => ⟨_, body cdv A outer s H E cd hr, ?_⟩)
  · obtain ⟨F, S, p, xs, cs, rest, ds, rfl, _, _, _, _, _, r, q⟩ := h
    unfold runP at q
    split at q
    · rename_i hl; rw [List.length_cons, r.length, hl, hn]
    · exact q.elim
  · obtain ⟨F, S, p, xs, cs, rest, ds, rfl, hp, hs, hf, rc, wd, r, q⟩ := h
    unfold runP at q
    split at q
    · rename_i hl
      have rel : RelE K mg F [some p] S H (L2.start N (.ref p :: rest)) (startE N.length (.lis true cs :: ds.map .dat)) := by
        refine relE_start wd (by simp [r.length]) (by have := pre_le Sc; simp [hl]; omega) (fun i s v e1 e2 => ?_) (fun i j b d b' d' e1 e2 => ?_)
        · cases i with
          | zero =>
            simp at e1 e2
            subst e1
            exact ⟨p, .lst xs, rfl, hp, hs, hf, rc, fun _ => rfl⟩
          | succ i =>
            simp only [List.getElem?_cons_succ] at e1 e2
            obtain ⟨d, h1, rfl⟩ := Option.map_eq_some_iff.mp (by rw [List.getElem?_map] at e1; exact e1)
            obtain ⟨w, h2, h3⟩ := r.get' h1
            rw [e2] at h2; cases h2
            exact ⟨v, by simp [e2], h3⟩
        · have aux : ∀ {i : Nat} {b : Bool} {d : Mt}, (Sv.lis true cs :: ds.map Sv.dat)[i]? = some (.mt b d) → i = 0 := fun {i b d} e => by
            cases i with
            | zero => rfl
            | succ i =>
              simp only [List.getElem?_cons_succ, List.getElem?_map] at e
              obtain ⟨_, _, z⟩ := Option.map_eq_some_iff.mp e
              cases z
          rw [aux e1, aux e2]
      refine ⟨F, [some p], S, _, rel, ?_⟩
      have fin : ∀ {e : Sl} {cs' : List PyData} {σ' : St} {S' H' : Hp}, e[0]? = some (some (.lis true cs')) → RelE K mg F [some p] S' H' σ' e → ∃ xs', H' p = some (.lst xs') ∧ S' p = none ∧ RpAll K S' xs' cs' := fun {e cs' σ' S' H'} he r' => by
        obtain ⟨p', xs', _, g2, g3, _, g5, g6⟩ := r'.lis he
        have := g6 rfl
        simp at this
        subst this
        exact ⟨xs', g2, g3, g5⟩
      cases hb : b (startE N.length (.lis true cs :: ds.map .dat)) with
      | bad => rw [hb] at q; exact q.elim
      | exc x e => rw [hb] at q; exact q.elim
      | ok fl e =>
        rw [hb] at q
        cases fl with
        | rt d =>
          simp only at q
          split at q
          · rename_i cs' he
            intro v σ' S' H' r' ex rp
            obtain ⟨xs', g1, g2, g3⟩ := fin he r'
            exact q v xs' S' H' ex r'.toWd g1 g2 g3 rp
          · exact q.elim
        | nx =>
          simp only at q
          split at q
          · rename_i cs' he
            intro σ' S' H' r' ex
            obtain ⟨xs', g1, g2, g3⟩ := fin he r'
            exact q .non xs' S' H' ex r'.toWd g1 g2 g3 .non
          · exact q.elim
        | bk => exact q.elim
        | ct => exact q.elim
        | rl d => exact q.elim
    · exact q.elim
theorem fnC {x qual : Str} {st : Stmt} {dvs : List V} {kws : List (Str × V)} {f : Addr} {fd : FuncData} {N ps : List Str} {n k : Nat} {b : M Fl} (Fn : FunD K x qual (defArgs st) (defBody st) (defScope st) dvs kws f fd) (Sc : FnScope N ps (defScope st)) (hn : ps.length = n + 1) (body : Body P w K mg base N k qual st f b) :
    FnG P w K mg base (L2.CX P w) (k + 1) f fd ps (spC K mg (runC n N.length b)) := by
  refine funG (CX := L2.CX P w) Fn Sc (fun vs H Q E h => ?_) (fun cdv A outer s H vs Q E cd hr h => ⟨_, body cdv A outer s H E cd hr, ?_⟩)
  · obtain ⟨F, S, p, xs, cs, rest, ds, rfl, _, _, _, r, q⟩ := h
    unfold runC at q
    split at q
    · rename_i hl; rw [List.length_cons, r.length, hl, hn]
    · exact q.elim
  · obtain ⟨F, S, p, xs, cs, rest, ds, rfl, hp, rc, wd, r, q⟩ := h
    unfold runC at q
    split at q
    · rename_i hl
      have rel : RelE K mg F [] S H (L2.start N (.ref p :: rest)) (startE N.length (.frz cs :: ds.map .dat)) := by
        refine relE_start wd (by simp [r.length]) (by have := pre_le Sc; simp [hl]; omega) (fun i s v e1 e2 => ?_) (fun i j b d b' d' e1 e2 => ?_)
        · cases i with
          | zero =>
            simp at e1 e2
            subst e1
            exact ⟨p, xs, rfl, hp, rc⟩
          | succ i =>
            simp only [List.getElem?_cons_succ] at e1 e2
            obtain ⟨d, h1, rfl⟩ := Option.map_eq_some_iff.mp (by rw [List.getElem?_map] at e1; exact e1)
            obtain ⟨w, h2, h3⟩ := r.get' h1
            rw [e2] at h2; cases h2
            exact ⟨v, by simp [e2], h3⟩
        · cases i with
          | zero => simp at e1
          | succ i =>
            simp only [List.getElem?_cons_succ, List.getElem?_map] at e1
            obtain ⟨_, _, z⟩ := Option.map_eq_some_iff.mp e1
            cases z
      refine ⟨F, [], S, _, rel, ?_⟩
      cases hb : b (startE N.length (.frz cs :: ds.map .dat)) with
      | bad => rw [hb] at q; exact q.elim
      | exc x e => rw [hb] at q; exact fun σ' cls dd S' H' r' ex rx => q cls dd S' H' ex r'.toWd rx
      | ok fl e =>
        rw [hb] at q
        cases fl with
        | rt d => exact fun v σ' S' H' r' ex rp => q v S' H' ex r'.toWd rp
        | nx => exact fun σ' S' H' r' ex => q .non S' H' ex r'.toWd .non
        | bk => exact q.elim
        | ct => exact q.elim
        | rl d => exact q.elim
    · exact q.elim
end
/-! ### a def as a caller has it -/
structure FnIs (P : Program) (w : World) (K : PySem.W.Frag) (mg : Str → Option Value) (base : Heap) (x : Str) (k : Nat) (sp : Sp) : Prop where
  ex : ∃ f fd ps, mg x = some (.ref f) ∧ PySem.W.keepIn K (.ref f) = true ∧ Binds K fd ps [] ∧ FnG P w K mg base (L2.CX P w) k f fd ps sp
/-- .. with its last parameters left out: they are the data dds -/
structure FnIsD (P : Program) (w : World) (K : PySem.W.Frag) (mg : Str → Option Value) (base : Heap) (x : Str) (k : Nat) (dds : List PyData) (sp : Sp) : Prop where
  ex : ∃ f fd ps ds dvs, mg x = some (.ref f) ∧ PySem.W.keepIn K (.ref f) = true ∧ Vals dvs ds ∧ (∀ S, RpAll K S dvs dds) ∧ Binds K fd ps ds ∧ FnG P w K mg base (L2.CX P w) k f fd ps sp
/-- all but S and the tables -/
def rest (H S : Hp) : Hp := fun a => match S a with
  | some _ => none
  | none => match H a with
    | some (.tbl _) => none
    | x => x
theorem rest_ex {H S : Hp} : Ex (rest H S) H := fun a o e => by
  unfold rest at e
  split at e
  · cases e
  · split at e
    · cases e
    · exact e
theorem rest_nt {H S : Hp} : NoTb (rest H S) := fun a ps e => by
  have h := rest_ex a _ e
  unfold rest at e
  split at e
  · cases e
  · rw [h] at e; cases e
theorem rest_dj {H S : Hp} : Dj S (rest H S) := fun a o e => .inl (by unfold rest; rw [e])
theorem rest_at {H S : Hp} {a : Addr} {o : HO} (h : S a = none) (e : H a = some o) (n : ∀ ps, o ≠ .tbl ps) : rest H S a = some o := by
  unfold rest; rw [h, e]
  cases o <;> first | rfl | exact (n _ rfl).elim
theorem rest_no {H S : Hp} {a : Addr} (h : S a = none) (e : rest H S a = none) : H a = none ∨ ∃ ps, H a = some (.tbl ps) := by
  cases q : H a with
  | none => exact .inl rfl
  | some o =>
    by_cases ht : ∃ ps, o = .tbl ps
    · obtain ⟨ps, rfl⟩ := ht; exact .inr ⟨ps, rfl⟩
    · rw [rest_at h q fun ps z => ht ⟨ps, z⟩] at e; cases e
theorem rest_wd {K : PySem.W.Frag} {H S : Hp} (sh : Ex S H) (tb : TbH K H) (ns : NoTb S) : Wd K (rest H S) S H := ⟨sh, rest_ex, rest_dj, tb, ns, rest_nt⟩
theorem TbH.still {K : PySem.W.Frag} {H H' : Hp} (t : TbH K H) (t' : TbH K H') {a : Addr} {ps : Array Value} (h : H a = some (.tbl ps)) : ∃ ps', H' a = some (.tbl ps') := by
  obtain ⟨p, hp, rfl⟩ := List.mem_map.mp (t.only a ps h)
  obtain ⟨ps', e, _⟩ := t'.ok p hp
  exact ⟨ps', e⟩
theorem grow_call {K : PySem.W.Frag} {S H S' H' : Hp} (sh : Ex S H) (tb : TbH K H) (a : Ex S S') (w : Wd K (rest H S) S' H') : Grow K S H S' H' where
  ss := a
  sh := w.sh
  tb := fun _ => w.tb
  ns := fun _ => w.ns
  tk := fun x ps e => tb.still w.tb e
  hh := fun x o e n => by
    cases q : S x with
    | some u =>
      have z := sh x u q
      rw [e] at z
      exact (w.sh x u (a x u q)).trans z.symm
    | none => exact w.fh x o (rest_at q e n)
  nw := fun x o e1 e2 => by
    cases q : H x with
    | none => exact .inl rfl
    | some u =>
      by_cases ht : ∃ ps, u = .tbl ps
      · obtain ⟨ps, rfl⟩ := ht
        obtain ⟨ps', z⟩ := tb.still w.tb q
        have := w.sh x o e2
        rw [z] at this; cases this
        exact (w.ns x _ e2).elim
      · have r := rest_at e1 q fun ps z => ht ⟨ps, z⟩
        rcases w.dj x o e2 with z | ⟨z, t⟩
        · rw [r] at z; cases z
        · rw [r] at z; cases z; exact .inr ⟨rfl, t⟩
section
variable {X : Cx} {W : WX} {x : Str} {k : Nat} {p pos : Pos} {e : Expr} {es : List Expr}
theorem callA_read {σ : St} {H : Hp} {Q : VK} {fa : M (List PyData)} {g : List PyData → Res PyData} (h : tD X W (fa >>= fun ds => M.ofRes (g ds)) σ H Q) : tDA X W fa σ H fun vs H1 => spA X.K X.mg g (vs ++ []) H1 Q (WE W σ) := by
  obtain ⟨F, P, S, env, rel, post⟩ := h
  refine ⟨F, P, S, env, rel, Post.step post fun ds e q vs S1 H1 rel1 ex1 rp1 => ?_⟩
  refine ⟨rest H1 S1, S1, ds, rest_wd rel1.sh rel1.tb rel1.ns, by rw [List.append_nil]; exact rp1, ?_⟩
  cases hg : g ds with
  | ok d =>
    rw [hg] at q
    intro v S2 H2 a w
    have gr := grow_call rel1.sh rel1.tb a w
    exact fun rp => q v S2 H2 (rel1.grow gr) (ex1.trans a) rp
  | exc x =>
    rw [hg] at q
    intro cls dd S2 H2 a w rx
    exact q cls dd S2 H2 (rel1.grow (grow_call rel1.sh rel1.tb a w)) (ex1.trans a) rx
  | bad => rw [hg] at q; exact q.elim
theorem de_callA {g : List PyData → Res PyData} {fa : M (List PyData)} (G : FnIs X.prog X.w X.K X.mg X.base x k (spA X.K X.mg g)) (hr : RoomG k X.A) (cx : Ctx X W) (ha : DA X W (e :: es) fa) (hg : Gl X x := by rfl)
    (hdb : (x == ("__debug__" : Str)) = false := by decide) (he : starEach (e :: es) X.env = (false, eval e X.env) :: starEach es X.env := by rfl) (hpl : (backTo pos (starEach es X.env)).any (·.1) = false := by rfl) :
    DE X W (.Call (.Name x p) (e :: es) [] pos) (fa >>= fun ds => M.ofRes (g ds)) := by
  obtain ⟨f, fd, ps, hm, hk, hb, F⟩ := G.ex
  exact PE_mono (pe_callG F hr hg hm hk hb .nil (fun σ => passAt cx.tk σ) ha hdb he hpl) fun σ H Q h => callA_read h
theorem de_callD {g : List PyData → Res PyData} {dds : List PyData} {fa : M (List PyData)} (G : FnIsD X.prog X.w X.K X.mg X.base x k dds (spA X.K X.mg g)) (hr : RoomG k X.A) (cx : Ctx X W) (ha : DA X W (e :: es) fa) (hg : Gl X x := by rfl)
    (hdb : (x == ("__debug__" : Str)) = false := by decide) (he : starEach (e :: es) X.env = (false, eval e X.env) :: starEach es X.env := by rfl) (hpl : (backTo pos (starEach es X.env)).any (·.1) = false := by rfl) :
    DE X W (.Call (.Name x p) (e :: es) [] pos) (fa >>= fun ds => M.ofRes (g (ds ++ dds))) := by
  obtain ⟨f, fd, ps, dv, dvs, hm, hk, hv, hd, hb, F⟩ := G.ex
  refine PE_mono (pe_callG F hr hg hm hk hb hv (fun σ => passAt cx.tk σ) ha hdb he hpl) fun σ H Q ⟨F, P, S, env, rel, post⟩ => ?_
  refine ⟨F, P, S, env, rel, Post.step post fun ds e q vs S1 H1 rel1 ex1 rp1 => ?_⟩
  refine ⟨rest H1 S1, S1, ds ++ dds, rest_wd rel1.sh rel1.tb rel1.ns, rp1.append (hd S1), ?_⟩
  cases hgo : g (ds ++ dds) with
  | ok d =>
    rw [hgo] at q
    intro v S2 H2 a w rp
    exact q v S2 H2 (rel1.grow (grow_call rel1.sh rel1.tb a w)) (ex1.trans a) rp
  | exc x =>
    rw [hgo] at q
    intro cls dd S2 H2 a w rx
    exact q cls dd S2 H2 (rel1.grow (grow_call rel1.sh rel1.tb a w)) (ex1.trans a) rx
  | bad => rw [hgo] at q; exact q.elim
def M.callP (i : Nat) (g : List PyData → List PyData → Res (PyData × List PyData)) (ds : List PyData) : M PyData := fun e => match e[i]? with
  | some (some (.mt b (.lst cs))) => match g cs ds with
    | .ok (d, cs') => .ok d (e.set i (some (.lis b cs')))
    | _ => .bad
  | _ => .bad
theorem RelE.called {K : PySem.W.Frag} {mg : Str → Option Value} {F S H S' H' : Hp} {P : List (Option Addr)} {σ : St} {env : Sl} {i : Nat} {b : Bool} {cs cs' : List PyData} {a : Addr} {xs' : List V} (r : RelE K mg F P S H σ env) (e : env[i]? = some (some (.lis b cs))) (hs : σ[i]? = some (some (.ref a)))
    (ss : Ex S S') (w : Wd K (fun q => if q = a then none else rest H S q) S' H') (hp : H' a = some (.lst xs')) (hn : S' a = none) (rc : RpAll K S' xs' cs') :
    RelE K mg F P S' H' σ (env.set i (some (.lis b cs'))) := by
  obtain ⟨p', xs, h1, h2, h3, h4, h5, h6⟩ := r.lis e
  rw [hs] at h1; cases h1
  have hl : i < env.length := (List.getElem?_eq_some_iff.mp e).1
  have fz : ∀ {q : Addr} {o : HO}, q ≠ a → S q = none → H q = some o → (∀ ps, o ≠ .tbl ps) → (fun q => if q = a then none else rest H S q) q = some o := fun {q o} n s h t => by
    simp only [n, if_false]; exact rest_at s h t
  have oth : ∀ {q : Addr} {o : HO}, q ≠ a → S q = none → H q = some o → (∀ ps, o ≠ .tbl ps) → ¬ Tp o → H' q = some o ∧ S' q = none := fun {q o} n s h t nt =>
    ⟨w.fh q o (fz n s h t), w.dj.none (fz n s h t) nt⟩
  have fnt : ∀ {q : Addr} {o : HO}, F q = some o → ∀ ps, o ≠ .tbl ps := fun {q o} z ps y => r.nf q ps (by rw [z, y])
  refine ⟨⟨w.sh, fun q o z => ?_, fun q o z => ?_, w.tb, w.ns, r.nf⟩, by simp [r.len], fun j s q => ?_, fun j k q bi di bj dj e1 e2 s1 s2 => ?_⟩
  · cases y : S q with
    | none => exact w.fh q o (fz (fun y => by rw [y, h4] at z; cases z) y (r.fh q o z) (fnt z))
    | some u =>
      rcases r.dj q u y with w' | ⟨w', _⟩
      · rw [w'] at z; cases z
      · rw [w'] at z; cases z
        exact w.sh q _ (ss q _ y)
  · cases y : F q with
    | none => exact .inl rfl
    | some u =>
      refine .inr ?_
      cases v : S q with
      | some w' =>
        have t := ss q w' v
        rw [z] at t; cases t
        rcases r.dj q _ v with w' | ⟨w', t⟩
        · rw [w'] at y; cases y
        · rw [w'] at y; cases y; exact ⟨rfl, t⟩
      | none =>
        have f := fz (fun t => by rw [t, h4] at y; cases y) v (r.fh q u y) (fnt y)
        rcases w.dj q o z with w' | ⟨w', t⟩
        · rw [w'] at f; cases f
        · rw [w'] at f; cases f; exact ⟨rfl, t⟩
  · by_cases z : i = j
    · subst z
      rw [List.getElem?_set_self hl] at q; cases q
      exact ⟨a, .lst xs', hs, hp, hn, h4, rc, h6⟩
    · rw [List.getElem?_set_ne z] at q
      have h := r.ats j s q
      cases s with
      | dat d => obtain ⟨v, g1, g2⟩ := h; exact ⟨v, g1, g2.mono ss⟩
      | raw v => exact h
      | fn x => exact h
      | exc a x => exact h
      | frz ds => obtain ⟨b, xs, g1, g2, g3⟩ := h; exact ⟨b, xs, g1, ss.l g2, g3.mono ss⟩
      | wk ds => obtain ⟨b, xs, g1, g2, g3⟩ := h; exact ⟨b, xs, g1, ss.t g2, g3.mono ss⟩
      | mt b' ds'' =>
        obtain ⟨p', xs'', g1, g2, g3, g4, g5, g6⟩ := h
        have ne : p' ≠ a := fun y => z (r.uq i j a b (.lst cs) b' ds'' e q hs (by rw [← y]; exact g1))
        have o := oth ne g3 g2 g5.nt.ne g5.ntp
        exact ⟨p', xs'', g1, o.1, o.2, g4, g5.mono ss, g6⟩
  · have aux : ∀ {j : Nat} {b' : Bool} {ds'' : Mt}, (env.set i (some (Sv.lis b cs')))[j]? = some (some (.mt b' ds'')) → ∃ c e, env[j]? = some (some (.mt c e)) := fun {j b' ds''} e' => by
      by_cases z : i = j
      · subst z; exact ⟨_, _, e⟩
      · rw [List.getElem?_set_ne z] at e'; exact ⟨_, _, e'⟩
    obtain ⟨c1, d1, g1⟩ := aux e1
    obtain ⟨c2, d2, g2⟩ := aux e2
    exact r.uq j k q c1 d1 c2 d2 g1 g2 s1 s2
theorem de_callP {i : Nat} {y : Str} {py : Pos} {g : List PyData → List PyData → Res (PyData × List PyData)} {fa : M (List PyData)} (G : FnIs X.prog X.w X.K X.mg X.base x k (spP X.K g)) (hr : RoomG k X.A) (cx : Ctx X W) (ha : DA X W es fa) (hg : Gl X x := by rfl)
    (hN : X.N[i]? = some y := by rfl) (hv : Vis X.env.scope y := by first | exact Or.inl rfl | exact Or.inr (Or.inl rfl) | exact Or.inr (Or.inr rfl)) (hd : (y == ("__debug__" : Str)) = false := by decide) (hcd : (y == ("__classdict__" : Str)) = false := by decide)
    (hdb : (x == ("__debug__" : Str)) = false := by decide) (he : starEach (.Name y py :: es) X.env = (false, eval (.Name y py) X.env) :: starEach es X.env := by rfl) (hpl : (backTo pos (starEach es X.env)).any (·.1) = false := by rfl) :
    DE X W (.Call (.Name x p) (.Name y py :: es) [] pos) (M.ownL i >>= fun _ => fa >>= fun ds => M.callP i g ds) := by
  obtain ⟨f, fd, ps, hm, hk, hb, F⟩ := G.ex
  refine PE_mono (pe_callG F hr hg hm hk hb .nil (fun σ => passAt cx.tk σ) (pa_cons (pe_var hN hv hd hcd) ha he) hdb he hpl) fun σ H Q ⟨F, P, S, env, rel, post⟩ => ?_
  obtain ⟨a, xs, h1, h2, post⟩ := Post.ownL rel post
  refine ⟨.ref a, h1, F, P, S, env, rel, Post.step post fun ds e q vs S1 H1 rel1 ex1 rp1 => ?_⟩
  unfold M.callP at q
  split at q
  · rename_i b cs he
    obtain ⟨p', xs', g1, g2, g3, g4, g5, g6⟩ := rel1.lis he
    rw [h1] at g1; cases g1
    split at q
    · rename_i d cs' hgo
      show spP X.K g ((.ref a :: vs) ++ []) H1 Q (WE W σ)
      rw [List.append_nil]
      refine ⟨fun q => if q = a then none else rest H1 S1 q, S1, a, xs', cs, vs, ds, rfl, g2, g3, by simp, g5, ⟨rel1.sh, fun z o y => ?_, fun z o y => ?_, rel1.tb, rel1.ns, fun z ps y => ?_⟩, rp1, ?_⟩
      · have y' : (if z = a then none else rest H1 S1 z) = some o := y
        split at y'
        · cases y'
        · exact rest_ex z o y'
      · refine .inl ?_
        show (if z = a then none else rest H1 S1 z) = none
        split
        · rfl
        · unfold rest; rw [y]
      · have y' : (if z = a then none else rest H1 S1 z) = some (.tbl ps) := y
        split at y'
        · cases y'
        · exact rest_nt z ps y'
      · rw [hgo]
        intro v xs2 S2 H2 a1 a2 a5 a6 a7 a8
        exact q v S2 H2 (rel1.called he h1 a1 a2 a5 a6 a7) (ex1.trans a1) a8
    · exact q.elim
  · exact q.elim
/-- y = f(..), f hands back a new list, to be changed later -/
theorem ds_setCallL {i : Nat} {y : Str} {g : List PyData → Res (List PyData)} {fa : M (List PyData)} {py spos : Pos} (hN : X.N.Nodup) (G : FnIs X.prog X.w X.K X.mg X.base x k (spL X.K X.mg g)) (hr : RoomG k X.A) (cx : Ctx X W) (ha : DA X W (e :: es) fa) (hg : Gl X x := by rfl)
    (hi : X.N[i]? = some y := by rfl) (hx : Loc X.env.scope y := by first | exact Or.inl rfl | exact Or.inr rfl) (hdb : (x == ("__debug__" : Str)) = false := by decide) (he : starEach (e :: es) X.env = (false, eval e X.env) :: starEach es X.env := by rfl)
    (hpl : (backTo pos (starEach es X.env)).any (·.1) = false := by rfl) (hs : swapsWith (.Call (.Name x p) (e :: es) [] pos) (some (.Name y py)) spos.line X.env = pure false := by rfl)
    (hf : X.fn y = true ∨ X.env.scope.names.lookup y = some .local := by first | exact .inl rfl | exact .inr rfl | assumption) :
    DS X W (.Assign [.Name y py] (.Call (.Name x p) (e :: es) [] pos) spos) (fa >>= fun ds => M.ofRes (g ds) >>= fun r => M.setL i r >>= fun _ => pure .nx) := by
  obtain ⟨f, fd, ps, hm, hk, hb, F⟩ := G.ex
  refine PS_mono (ps_set hN hi hx (pe_callG F hr hg hm hk hb .nil (fun σ => passAt cx.tk σ) ha hdb he hpl) hs hf) fun D σ H ⟨F, P, S, env, rel, post⟩ => ?_
  refine ⟨F, P, S, env, rel, PostS.stepE post fun ds e q vs S1 H1 rel1 ex1 rp1 => ?_⟩
  refine ⟨rest H1 S1, S1, ds, rest_wd rel1.sh rel1.tb rel1.ns, by rw [List.append_nil]; exact rp1, ?_⟩
  cases hgo : g ds with
  | ok d =>
    rw [hgo] at q
    intro a xs S2 H2 a1 a2 a5 a6 a7 a8
    have gr := grow_call rel1.sh rel1.tb a1 a2
    have fresh : H1 a = none := by
      have : S1 a = none := a1.back a6
      rcases rest_no this a7 with z | ⟨ps, z⟩
      · exact z
      · obtain ⟨ps', z'⟩ := rel1.tb.still a2.tb z
        rw [a5] at z'; cases z'
    exact q _ S2 H2 ((rel1.grow gr).setOwn a5 a6 (rel1.fh.back fresh) (rel1.apart fresh) a8) (ex1.trans a1)
  | exc x =>
    rw [hgo] at q
    intro cls dd S2 H2 a w rx
    exact q σ cls dd S2 H2 (rel1.grow (grow_call rel1.sh rel1.tb a w)) (ex1.trans a) rx
  | bad => rw [hgo] at q; exact q.elim
/-! ### the script -/
def M.scr (i : Nat) : M (List PyData) := fun e => match e[i]? with
  | some (some (.frz ds)) => .ok ds e
  | _ => .bad
theorem de_callC {i : Nat} {y : Str} {py : Pos} {g : List PyData → List PyData → Res PyData} {fa : M (List PyData)} (G : FnIs X.prog X.w X.K X.mg X.base x k (spC X.K X.mg g)) (hr : RoomG k X.A) (cx : Ctx X W) (ha : DA X W es fa) (hg : Gl X x := by rfl)
    (hN : X.N[i]? = some y := by rfl) (hv : Vis X.env.scope y := by first | exact Or.inl rfl | exact Or.inr (Or.inl rfl) | exact Or.inr (Or.inr rfl)) (hd : (y == ("__debug__" : Str)) = false := by decide) (hcd : (y == ("__classdict__" : Str)) = false := by decide)
    (hdb : (x == ("__debug__" : Str)) = false := by decide) (he : starEach (.Name y py :: es) X.env = (false, eval (.Name y py) X.env) :: starEach es X.env := by rfl) (hpl : (backTo pos (starEach es X.env)).any (·.1) = false := by rfl) :
    DE X W (.Call (.Name x p) (.Name y py :: es) [] pos) (M.scr i >>= fun cs => fa >>= fun ds => M.ofRes (g cs ds)) := by
  obtain ⟨f, fd, ps, hm, hk, hb, F⟩ := G.ex
  refine PE_mono (pe_callG F hr hg hm hk hb .nil (fun σ => passAt cx.tk σ) (pa_cons (pe_var hN hv hd hcd) ha he) hdb he hpl) fun σ H Q ⟨F, P, S, env, rel, post⟩ => ?_
  rw [bind_run] at post
  unfold M.scr at post
  split at post
  · rename_i cs he
    obtain ⟨a, xs, h1, h2, h3⟩ := rel.ats i _ he
    refine ⟨.ref a, h1, F, P, S, env, rel, Post.step post fun ds e q vs S1 H1 rel1 ex1 rp1 => ?_⟩
    show spC X.K X.mg g ((.ref a :: vs) ++ []) H1 Q (WE W σ)
    rw [List.append_nil]
    refine ⟨rest H1 S1, S1, a, xs, cs, vs, ds, rfl, ex1.l h2, h3.mono ex1, rest_wd rel1.sh rel1.tb rel1.ns, rp1, ?_⟩
    cases hgo : g cs ds with
    | ok d =>
      rw [hgo] at q
      intro v S2 H2 a1 w rp
      exact q v S2 H2 (rel1.grow (grow_call rel1.sh rel1.tb a1 w)) (ex1.trans a1) rp
    | exc x =>
      rw [hgo] at q
      intro cls dd S2 H2 a1 w rx
      exact q cls dd S2 H2 (rel1.grow (grow_call rel1.sh rel1.tb a1 w)) (ex1.trans a1) rx
    | bad => rw [hgo] at q; exact q.elim
  · exact post.elim
/-- len(script), script[k], script[a:b] -/
theorem scr_post {i : Nat} {F S H : Hp} {P : List (Option Addr)} {σ : St} {env : Sl} {β : Type} {kk : List PyData → M β} {R : β → Sl → Prop} (rel : RelE X.K X.mg F P S H σ env) (post : Post X W F P S σ ((M.scr i >>= kk) env) R) :
    ∃ cs a xs, σ[i]? = some (some (.ref a)) ∧ SqL X.K S a xs ∧ RpAll X.K S xs cs ∧ Post X W F P S σ (kk cs env) R := by
  rw [bind_run] at post
  unfold M.scr at post
  split at post
  · rename_i cs he
    obtain ⟨a, xs, h1, h2, h3⟩ := rel.ats i _ he
    exact ⟨cs, a, xs, h1, h2, h3, post⟩
  · exact post.elim
theorem de_lenC {i : Nat} {y : Str} {py : Pos} (hm : X.mg "len" = none) (hg : Gl X "len" := by rfl) (hN : X.N[i]? = some y := by rfl) (hv : Vis X.env.scope y := by first | exact Or.inl rfl | exact Or.inr (Or.inl rfl) | exact Or.inr (Or.inr rfl))
    (hd : (y == ("__debug__" : Str)) = false := by decide) (hcd : (y == ("__classdict__" : Str)) = false := by decide)
    (he : starEach [.Name y py] X.env = (false, eval (.Name y py) X.env) :: starEach [] X.env := by rfl) (hpl : (backTo pos (starEach [] X.env)).any (·.1) = false := by rfl) :
    DE X W (.Call (.Name "len" p) [.Name y py] [] pos) (M.scr i >>= fun cs => pure (.int cs.length)) := by
  refine PE_mono (pe_callB call_len_seq hg hm PySem.boot_len (pa_cons (pe_var hN hv hd hcd) pa_nil he) (by decide) (by decide) he hpl) fun σ H Q ⟨F, P, S, env, rel, post⟩ => ?_
  obtain ⟨cs, a, xs, h1, h2, h3, post⟩ := scr_post rel post
  refine ⟨.ref a, h1, a, xs, rfl, .inl (rel.sh.l h2), ?_⟩
  rw [h3.length]
  exact post _ S H rel (Ex.refl S) (.int _)
theorem de_ixC {i : Nat} {y : Str} {py : Pos} {b : Expr} {f : M PyData} (h : DE X W b f) (hs : PlainIx b := by exact fun _ _ => rfl) (hN : X.N[i]? = some y := by rfl) (hv : Vis X.env.scope y := by first | exact Or.inl rfl | exact Or.inr (Or.inl rfl) | exact Or.inr (Or.inr rfl))
    (hd : (y == ("__debug__" : Str)) = false := by decide) (hcd : (y == ("__classdict__" : Str)) = false := by decide) : DE X W (.Subscript (.Name y py) b pos) (M.scr i >>= fun cs => f >>= fun j => M.lift (gIx (.list cs) j)) := by
  refine PE_mono (pe_ix ix_list (pe_var hN hv hd hcd) h hs) fun σ H Q ⟨F, P, S, env, rel, post⟩ => ?_
  obtain ⟨cs, a, xs, h1, h2, h3, post⟩ := scr_post rel post
  refine ⟨.ref a, h1, F, P, S, env, rel, Post.step post fun j e q v S1 H1 rel1 ex1 rp1 => ?_⟩
  obtain ⟨dz, hz, q2⟩ := q.lift
  clear q
  unfold gIx at hz
  split at hz
  · rename_i ds n he
    cases he
    obtain ⟨w, g1, g2⟩ := (h3.mono ex1).atI hz
    exact ⟨a, xs, _, w, rfl, rp1.int_inv, rel1.sh.l (ex1.l h2), g1, q2 w S1 H1 rel1 ex1 g2⟩
  · rename_i he; cases he
  · rename_i he; cases he
  · cases hz
theorem de_slC {i : Nat} {y : Str} {py p2 : Pos} {lo hi : Option Expr} {fl fh : M (Option Int)} (hl : DO X W lo fl) (hh : DO X W hi fh) (hN : X.N[i]? = some y := by rfl) (hv : Vis X.env.scope y := by first | exact Or.inl rfl | exact Or.inr (Or.inl rfl) | exact Or.inr (Or.inr rfl))
    (hd : (y == ("__debug__" : Str)) = false := by decide) (hcd : (y == ("__classdict__" : Str)) = false := by decide) :
    DE X W (.Subscript (.Name y py) (.Slice lo hi none p2) pos) (M.scr i >>= fun cs => fl >>= fun l => fh >>= fun h => pure (.list (cutD cs l h))) := by
  refine PE_mono (pe_slice sl_list (pe_var hN hv hd hcd) hl hh) fun σ H Q ⟨F, P, S, env, rel, post⟩ => ?_
  obtain ⟨cs, a, xs, h1, h2, h3, post⟩ := scr_post rel post
  refine ⟨.ref a, h1, F, P, S, env, rel, Post.step post fun l e2 p2 S2 H2 rel2 ex2 => ?_⟩
  refine ⟨F, P, S2, e2, rel2, (Post.step p2 (R' := fun l e2 => _) fun l e2 q => q).mono ex2 fun h e3 p3 S3 H3 rel3 ex3 => ?_⟩
  have q' : Pure X.K S3 H3 (.list (cutD cs l h)) Q := fun w S4 H4 gr rw => p3 w S4 H4 (rel3.grow gr) ((ex2.trans ex3).trans gr.ss) rw
  exact ⟨a, xs, rfl, rel3.sh.l ((ex2.trans ex3).l h2), q'.lst rel3.sh ((h3.mono (ex2.trans ex3)).cut l h)⟩
end
end DL
namespace DL
open PySem L2
section
variable {X : Cx} {W : WX} {K : PySem.W.Frag} {S H : Hp} {p pos : Pos}
/-! ### isinstance -/
def tyD : PyData → String
  | .none => "NoneType"
  | .bool _ => "bool"
  | .int _ => "int"
  | .str _ => "str"
  | .list _ => "list"
  | .tuple _ => "tuple"
  | .dict _ => "dict"
def isiB (a T : String) : Bool := a == T || (T == "int" && a == "bool")
def tys : List String := ["NoneType", "bool", "int", "str", "list", "tuple", "dict"]
theorem tyD_mem (d : PyData) : tyD d ∈ tys := by cases d <;> simp [tyD, tys]
theorem Rp.tyX {v : V} {d : PyData} (h : Rp K S v d) (e : Ex S H) : TyX K H v (.type (tyD d)) := by
  cases h with
  | non => exact .base .non
  | bl b => exact .base (.bl b)
  | int i => exact .base (.int i)
  | str x _ => exact .base (.str x)
  | lst h _ => exact .base (.lst (e _ _ h))
  | tup h _ =>
    rcases h with ⟨o, h, _⟩ | ⟨o, its, n, h1, h2, _⟩
    · exact .fTuple (e _ _ h)
    · exact .kTuple h1 h2
  | dct h _ =>
    rcases h with h | ⟨o, h⟩
    · exact .base (.dK (e _ _ h))
    · exact .fDict (e _ _ h)
/-- a built-in class that isinstance is asked of -/
def TyOk (T : String) (f : PyData → Bool) : Prop := ∀ d : PyData, kitB (tyD d) T = some (f d)
def isStr : PyData → Bool | .str _ => true | _ => false
def isInt : PyData → Bool | .int _ => true | .bool _ => true | _ => false
def isBool : PyData → Bool | .bool _ => true | _ => false
def isTuple : PyData → Bool | .tuple _ => true | _ => false
def isList : PyData → Bool | .list _ => true | _ => false
def isDict : PyData → Bool | .dict _ => true | _ => false
theorem ty_all : (∀ a ∈ tys, kitB a "str" = some (isiB a "str")) ∧ (∀ a ∈ tys, kitB a "int" = some (isiB a "int")) ∧ (∀ a ∈ tys, kitB a "bool" = some (isiB a "bool")) ∧ (∀ a ∈ tys, kitB a "tuple" = some (isiB a "tuple")) ∧
    (∀ a ∈ tys, kitB a "list" = some (isiB a "list")) ∧ (∀ a ∈ tys, kitB a "dict" = some (isiB a "dict")) := by decide +kernel
theorem ty_str : TyOk "str" isStr := fun d => by rw [ty_all.1 _ (tyD_mem d)]; cases d <;> rfl
theorem ty_int : TyOk "int" isInt := fun d => by rw [ty_all.2.1 _ (tyD_mem d)]; cases d <;> rfl
theorem ty_bool : TyOk "bool" isBool := fun d => by rw [ty_all.2.2.1 _ (tyD_mem d)]; cases d <;> rfl
theorem ty_tuple : TyOk "tuple" isTuple := fun d => by rw [ty_all.2.2.2.1 _ (tyD_mem d)]; cases d <;> rfl
theorem ty_list : TyOk "list" isList := fun d => by rw [ty_all.2.2.2.2.1 _ (tyD_mem d)]; cases d <;> rfl
theorem ty_dict : TyOk "dict" isDict := fun d => by rw [ty_all.2.2.2.2.2 _ (tyD_mem d)]; cases d <;> rfl
theorem de_isi {a : Expr} {f : M PyData} {T : String} {ft : PyData → Bool} {tx : Str} {tp : Pos} (hT : TyOk T ft) (hb : bootBuiltins tx = some (.type T)) (hm : X.mg "isinstance" = none) (hmt : X.mg tx = none) (ha : DE X W a f) (hg : Gl X "isinstance" := by rfl) (hgt : Gl X tx := by rfl)
    (hnt : tx ≠ "__name__" := by decide) (hdt : (tx == ("__debug__" : Str)) = false := by decide)
    (h1 : starEach [.Name tx tp] X.env = (false, eval (.Name tx tp) X.env) :: starEach [] X.env := by rfl) (he : starEach [a, .Name tx tp] X.env = (false, eval a X.env) :: starEach [.Name tx tp] X.env := by rfl) (hpl : (backTo pos (starEach [.Name tx tp] X.env)).any (·.1) = false := by rfl) :
    DE X W (.Call (.Name "isinstance" p) [a, .Name tx tp] [] pos) (f >>= fun d => pure (.bool (ft d))) := by
  refine PE_mono (pe_callB call_isi hg hm (by decide +kernel) (pa_cons ha (pa_cons (pe_bltn (v := .ty T) hgt hmt hb rfl hnt hdt) pa_nil h1) he) (by decide) (by decide) he hpl) fun σ H Q ⟨F, P, S, env, rel, post⟩ => ?_
  refine ⟨F, P, S, env, rel, Post.step post fun d e q v S1 H1 rel1 ex1 rp1 => ?_⟩
  exact ⟨v, .ty T, _, _, _, rfl, .ty T, rp1.tyX rel1.sh, kit_ty (hT d), q (.bl _) S1 H1 rel1 ex1 (.bl _)⟩
/-! ### repr of what is flat -/
theorem TxOk.ofString {s : String} (h : (Str.ofString s).length ≤ sizeLine) : TxOk (Str.ofString s) := by
  refine ⟨h, strOk_of fun c hc => ?_⟩
  have : c ∈ (s.toList.map Char.toNat) := by rw [Str.ofString_eq_toList] at hc; simpa using hc
  obtain ⟨ch, _, rfl⟩ := List.mem_map.mp this
  have := ch.valid
  show ch.toNat < 0x110000
  rcases this with h | ⟨_, h⟩
  · exact Nat.lt_trans h (by decide)
  · exact h
def reprF : PyData → Option Str
  | .none => some "None"
  | .bool b => some (if b then "True" else "False")
  | .int i => if i.natAbs.log2 < 1920 then some (Str.ofString (toString i)) else none
  | _ => none
def gRepr : List PyData → Option PyData
  | [d] => (reprF d).map .str
  | _ => none
theorem reprF_ok {d : PyData} {x : Str} (h : reprF d = some x) : TxOk x := by
  cases d with
  | none => cases h; decide +kernel
  | bool b => cases h; cases b <;> decide +kernel
  | int i =>
    simp only [reprF] at h
    split at h
    · rename_i hi; cases h; exact TxOk.ofString (int_text_fits hi)
    · cases h
  | _ => cases h
theorem call_repr_flat : CallR X (.builtin "repr") (fun xs H Q => (xs = [.non] ∧ Q (.str "None") H) ∨ (∃ b, xs = [.bl b] ∧ Q (.str (if b then "True" else "False")) H) ∨ ∃ i, xs = [.int i] ∧ i.natAbs.log2 < 1920 ∧ Q (.str (Str.ofString (toString i))) H) := by
  intro pins s σ H xs us Q I r h
  rcases h with ⟨rfl, q⟩ | ⟨b, rfl, q⟩ | ⟨i, rfl, hz, q⟩
  · obtain ⟨u, rfl, rfl⟩ := vals1 r
    exact PySem.P.repr_of_none ⟨.str _, H, I.tok _, ⟨_, rfl⟩, q⟩
  · obtain ⟨u, rfl, rfl⟩ := vals1 r
    exact PySem.P.repr_of_bool ⟨.str _, H, I.tok _, ⟨_, rfl⟩, q⟩
  · obtain ⟨u, rfl, t, rfl⟩ := vals1 r
    exact PySem.P.repr_of_int hz ⟨.str _, H, I.tok _, ⟨_, rfl⟩, q⟩
theorem c_repr : CallD X (.builtin "repr") gRepr := by
  refine ⟨_, call_repr_flat, fun S H xs ds dz Q e rx eq q => ?_⟩
  unfold gRepr at eq
  split at eq
  · rename_i d
    obtain ⟨x, hx, rfl⟩ := Option.map_eq_some_iff.mp eq
    have ok := reprF_ok hx
    obtain ⟨v, rfl, r⟩ := rx.one_inv
    cases d with
    | none => cases hx; rw [r.non_inv]; exact .inl ⟨rfl, q.str e ok⟩
    | bool b => cases hx; rw [r.bl_inv]; exact .inr (.inl ⟨b, rfl, q.str e ok⟩)
    | int i =>
      simp only [reprF] at hx
      split at hx
      · rename_i hi; cases hx; rw [r.int_inv]; exact .inr (.inr ⟨i, rfl, hi, q.str e ok⟩)
      · cases hx
    | _ => cases hx
  · cases eq
/-! ### -n -/
def gNeg : PyData → Option PyData
  | .int i => some (.int (-i))
  | _ => none
theorem de_neg {a : Expr} {f : M PyData} (h : DE X W a f) : DE X W (.UnaryOp .USub a pos) (f >>= fun d => M.lift (gNeg d)) := by
  refine PE_mono (pe_un un_neg h) fun σ H Q ⟨F, P, S, env, rel, post⟩ => ?_
  refine ⟨F, P, S, env, rel, Post.step post fun d e q v S1 H1 rel1 ex1 rp1 => ?_⟩
  obtain ⟨dz, hz, q2⟩ := q.lift
  cases d with
  | int i => cases hz; exact ⟨i, rp1.int_inv, q2 (.int _) S1 H1 rel1 ex1 (.int _)⟩
  | _ => cases hz
/-! ### raise -/
structure ExcCl (K : PySem.W.Frag) (mg : Str → Option Value) (x : Str) : Prop where
  ex : ∃ C, PySem.W.excIn K C [.type "ValueError", .type "Exception", .type "BaseException", .type "object"] "ValueError.__new__" = true ∧ mg x = some (.ref C) ∧ PySem.W.keepIn K (.ref C) = true ∧
    PySem.W.subIn K (.ref C) (.type "BaseException") = some true ∧ PySem.W.typeIn K (.ref C) = some (.type "type")
theorem ds_raise {x m : Str} {j : Nat} {p2 cp : Pos} (T : ExcCl X.K X.mg x) (cx : Ctx X W) (hc : X.calm = true) (hg : Gl X x := by rfl) (hdb : (x == ("__debug__" : Str)) = false := by decide) :
    DS X W (.Raise (some (.Call (.Name x p) [.Constant (.str m) j p2] [] cp)) none pos) (M.raise ⟨x, none⟩) := by
  obtain ⟨C, h1, h2, h3, h4, h5⟩ := T.ex
  refine PS_mono (ps_raise hc cx.tk (pmk_own PySem.F.excBase_ValueError h1 h2 h3 (raises_own h4 h5) hg hdb)) fun D σ H ⟨F, P, S, env, rel, post⟩ => ?_
  exact post σ (.ref C) none S H rel (Ex.refl S) ⟨h2, rfl⟩
/-! ### chains -/
def mChain (fa fb fc : M PyData) (g g' : PyData → PyData → Option PyData) : M PyData := fa >>= fun x => fb >>= fun y => M.lift (g x y) >>= fun z => M.lift (asB z) >>= fun b => if b = true then fc >>= fun w => M.lift (g' y w) else pure (.bool false)
theorem chain_read {fa fb fc : M PyData} {g g' : PyData → PyData → Option PyData} {r r' : R2} {σ : St} {H : Hp} {Q : VK}
    (hg : ∀ S H x y dx dy dz Q, Ex S H → Rp X.K S x dx → Rp X.K S y dy → g dx dy = some dz → Pure X.K S H dz Q → r x y H Q) (hg' : ∀ S H x y dx dy dz Q, Ex S H → Rp X.K S x dx → Rp X.K S y dy → g' dx dy = some dz → Pure X.K S H dz Q → r' x y H Q)
    (h : tD X W (mChain fa fb fc g g') σ H Q) : tChain r r' (tD X W fa) (tD X W fb) (tD X W fc) σ H Q := by
  obtain ⟨F, P, S, env, rel, post⟩ := h
  refine ⟨F, P, S, env, rel, Post.step post fun dx e1 p1 v S1 H1 rel1 ex1 rp1 => ?_⟩
  refine ⟨F, P, S1, e1, rel1, (Post.step p1 (R' := fun dy e2 => Post X W F P S σ ((M.lift (g dx dy) >>= fun z => M.lift (asB z) >>= fun b => if b = true then fc >>= fun w => M.lift (g' dy w) else pure (.bool false)) e2) _) fun dy e2 q => q).mono ex1 fun dy e2 p2 u S2 H2 rel2 ex2 rp2 => ?_⟩
  obtain ⟨dz, ez, p3⟩ := (Post.step p2 (R' := fun z e3 => _) fun z e3 q => q).lift
  obtain ⟨b, eb, p4⟩ := (Post.step p3 (R' := fun z e3 => _) fun z e3 q => q).lift
  have := asB_eq eb
  subst this
  refine hg S2 H2 v u dx dy _ _ rel2.sh (rp1.mono ex2) rp2 ez fun w S3 H3 gr rw3 => ⟨b, rw3.bl_inv, ?_⟩
  cases b with
  | false => exact p4 (.bl false) S3 H3 (rel2.grow gr) ((ex1.trans ex2).trans gr.ss) (.bl false)
  | true =>
    rw [if_pos rfl] at p4 ⊢
    refine ⟨F, P, S3, e2, rel2.grow gr, (Post.step p4 (R' := fun dw e4 => Post X W F P S σ (M.lift (g' dy dw) e4) _) fun dw e4 q => q).mono ((ex1.trans ex2).trans gr.ss) fun dw e4 p5 t S4 H4 rel4 ex4 rp4 => ?_⟩
    obtain ⟨dk, ek, p6⟩ := p5.lift
    exact hg' S4 H4 u t dy dw dk Q rel4.sh ((rp2.mono gr.ss).mono ex4) rp4 ek fun z S5 H5 gr5 rw5 => p6 z S5 H5 (rel4.grow gr5) ((((ex1.trans ex2).trans gr.ss).trans ex4).trans gr5.ss) rw5
theorem de_chain {a b c : Expr} {op op' : CmpOp} {fa fb fc : M PyData} {g g' : PyData → PyData → Option PyData} (ho : Op2 X (compareOp op) g) (ho' : Op2 X (compareOp op') g') (ha : DE X W a fa) (hb : DE X W b fb) (hc : DE X W c fc)
    (hm : lastMarks [op, op'] [b, c] = false := by with_unfolding_all rfl) : DE X W (.Compare a [op, op'] [b, c] pos) (mChain fa fb fc g g') := by
  obtain ⟨r, h1, h2⟩ := ho
  obtain ⟨r', h1', h2'⟩ := ho'
  exact PE_mono (pe_chain h1 h1' ha hb hc hm) fun σ H Q h => chain_read h2 h2' h
theorem dt_chain {a b c : Expr} {op op' : CmpOp} {fa fb fc : M PyData} {g g' : PyData → PyData → Option PyData} (ho : Op2 X (compareOp op) g) (ho' : Op2 X (compareOp op') g') (ha : DE X W a fa) (hb : DE X W b fb) (hc : DE X W c fc)
    (hm : lastMarks [op, op'] [b, c] = false := by with_unfolding_all rfl) : DT X W (.Compare a [op, op'] [b, c] pos) (mChain fa fb fc g g' >>= fun d => M.lift (asB d)) := by
  obtain ⟨r, h1, h2⟩ := ho
  obtain ⟨r', h1', h2'⟩ := ho'
  exact PT_mono (pt_chain h1 h1' ha hb hc hm) fun σ H Q h => chain_read h2 h2' (tD_test h)
/-! ### zip -/
def zipD (xs ys : List PyData) : List PyData := (xs.zip ys).map fun p => .tuple [p.1, p.2]
def gZip : List PyData → Option (List PyData)
  | [.list xs, .list ys] => some (zipD xs ys)
  | [.tuple xs, .tuple ys] => some (zipD xs ys)
  | _ => none
theorem wk_pair {K : PySem.W.Frag} {J : It} {S : Hp} {ds : List PyData} {G : Hp → Prop} {xs ys : Nat → Option V} (w : Walk J ds.length G (YPair xs ys)) (hG : ∀ H, Ex S H → G H)
    (hd : ∀ (i : Nat) (d : PyData), ds[i]? = some d → ∃ x y dx dy, xs i = some x ∧ ys i = some y ∧ d = .tuple [dx, dy] ∧ Rp K S x dx ∧ Rp K S y dy) : Wk K J S false ds := by
  refine ⟨fun i H hi e => w.goes i H hi (hG H e), fun H e => w.stops H (hG H e), fun i H x H' d h e y Sc ss sh => ?_⟩
  obtain ⟨T, a, b, rfl, hT, rfl, h1, h2⟩ := w.yields i H x H' (List.getElem?_eq_some_iff.mp h).1 (hG H e) y
  obtain ⟨a', b', dx, dy, g1, g2, rfl, r1, r2⟩ := hd i d h
  rw [h1] at g1; cases g1
  rw [h2] at g2; cases g2
  have gr : Grow K Sc H (upd Sc T (.tup [a, b])) (upd H T (.tup [a, b])) := Grow.new sh hT
  exact ⟨_, gr, .inr ⟨_, _, _, rfl, rfl, SqT.of upd_same, .cons ((r1.mono ss).mono gr.ss) (.one ((r2.mono ss).mono gr.ss))⟩⟩
theorem zipD_get {xs ys : List PyData} {i : Nat} {d : PyData} (h : (zipD xs ys)[i]? = some d) : ∃ x y, xs[i]? = some x ∧ ys[i]? = some y ∧ d = .tuple [x, y] := by
  unfold zipD at h
  rw [List.getElem?_map] at h
  obtain ⟨⟨x, y⟩, h1, rfl⟩ := Option.map_eq_some_iff.mp h
  rw [List.getElem?_zip_eq_some] at h1
  exact ⟨x, y, h1.1, h1.2, rfl⟩
theorem walk_zipT {a b : Addr} {xs ys : List V} {n : Nat} (hn : n = min xs.length ys.length) : Walk (RZ.ItzT K a b) n (fun H => SqT K H a xs ∧ SqT K H b ys) (YPair (fun i => xs[i]?) (fun i => ys[i]?)) := by
  subst hn
  refine ⟨fun i _ hi q => ?_, fun _ q => ⟨xs, ys, q.1, q.2, by omega⟩, fun i H v H' _ q y => ?_⟩
  · have h1 : i < xs.length := by omega
    have h2 : i < ys.length := by omega
    exact ⟨xs, ys, xs[i], ys[i], q.1, q.2, by simp [h1], by simp [h2]⟩
  · obtain ⟨T, x, z, h1, h2, h3, h4, h5⟩ := y
    exact ⟨T, x, z, h1, h2, h3, h4 xs q.1, h5 ys q.2⟩
theorem RpAll.two_inv {xs : List V} {d e : PyData} (h : RpAll K S xs [d, e]) : ∃ v w, xs = [v, w] ∧ Rp K S v d ∧ Rp K S w e := by
  cases h with
  | cons h r =>
    obtain ⟨w, rfl, g⟩ := r.one_inv
    exact ⟨_, w, rfl, h, g⟩
theorem di_zip {a b : Expr} {f : M (List PyData)} {tpos : Pos} {elts : List Expr} {kk : Nat} (hm : X.mg "zip" = none) (ha : DA X W [a, b] f) (hg : Gl X "zip" := by rfl)
    (hs : starEach [a, b] X.env = (false, eval a X.env) :: starEach [b] X.env := by rfl) (hpl : (backTo pos (starEach [b] X.env)).any (·.1) = false := by rfl) :
    DI X W false (.Tuple elts kk tpos) (.Call (.Name "zip" p) [a, b] [] pos) (f >>= fun ds => M.lift (gZip ds)) := by
  refine PI_mono (RZ.pi_zipA hg hm ha hs hpl) fun σ H R ⟨F, P, S, env, rel, post⟩ => ?_
  refine ⟨F, P, S, env, rel, Post.step post fun ds e q vs S1 H1 rel1 ex1 rp1 => ?_⟩
  obtain ⟨zs, hz, q2⟩ := q.lift
  have len : ∀ {xs ys : List PyData} {as bs : List V}, RpAll X.K S1 as xs → RpAll X.K S1 bs ys → (zipD xs ys).length = min as.length bs.length := fun {xs ys as bs} h1 h2 => by
    unfold zipD; rw [List.length_map, List.length_zip, h1.length, h2.length]
  have prs : ∀ {xs ys : List PyData} {as bs : List V}, RpAll X.K S1 as xs → RpAll X.K S1 bs ys → ∀ (i : Nat) (d : PyData), (zipD xs ys)[i]? = some d → ∃ x y dx dy, as[i]? = some x ∧ bs[i]? = some y ∧ d = .tuple [dx, dy] ∧ Rp X.K S1 x dx ∧ Rp X.K S1 y dy := fun {xs ys as bs} h1 h2 i d hd => by
    obtain ⟨dx, dy, g1, g2, rfl⟩ := zipD_get hd
    obtain ⟨x, k1, k2⟩ := h1.get' g1
    obtain ⟨y, k3, k4⟩ := h2.get' g2
    exact ⟨x, y, dx, dy, k1, k3, rfl, k2, k4⟩
  unfold gZip at hz
  split at hz
  · cases hz
    obtain ⟨v, w, rfl, r1, r2⟩ := rp1.two_inv
    obtain ⟨a, xs, rfl, g1, h1⟩ := r1.lst_inv
    obtain ⟨b, ys, rfl, g2, h2⟩ := r2.lst_inv
    refine ⟨a, b, xs, ys, rfl, .inl ⟨rel1.sh.l (SqL.of g1), rel1.sh.l (SqL.of g2), q2 _ S1 H1 rel1 ex1 ?_⟩⟩
    exact wk_pair (walk_zip (len h1 h2)) (fun H e => ⟨e.l (SqL.of g1), e.l (SqL.of g2)⟩) (prs h1 h2)
  · cases hz
    obtain ⟨v, w, rfl, r1, r2⟩ := rp1.two_inv
    obtain ⟨a, xs, rfl, g1, h1⟩ := r1.tup_inv
    obtain ⟨b, ys, rfl, g2, h2⟩ := r2.tup_inv
    refine ⟨a, b, xs, ys, rfl, .inr ⟨rel1.sh.t g1, rel1.sh.t g2, q2 _ S1 H1 rel1 ex1 ?_⟩⟩
    exact wk_pair (walk_zipT (len h1 h2)) (fun H e => ⟨e.t g1, e.t g2⟩) (prs h1 h2)
  · cases hz
end
end DL
/-! enumerate over a tuple -/
namespace DLE
open PySem
open PySem.Sem (wp)
/-- the two new cells of enumerate(t), t a tuple -/
theorem new_meets (t : Addr) (its : Array Value) : Meets (Builtin.«enumerate.__new__» ⟨[.type "enumerate", .ref t], []⟩) (fun _ R s => s.heap.IsTuple t its ∧
    R (.ok (.ret (.ref (s.heap.push { cls := .type "tuple_iterator", data := .fields #[.ref t, .int 0 0] }).objs.size)))
      { s with heap := (s.heap.push { cls := .type "tuple_iterator", data := .fields #[.ref t, .int 0 0] }).push { cls := .type "enumerate", data := .fields #[.none, .bool false, .ref s.heap.objs.size, rawInt 0, .none, .none] } }) :=
  .of_wp fun prog w A R s h => by
    obtain ⟨hp, g, d, tk, os⟩ := s
    obtain ⟨ht, h⟩ := h
    have sub := sub_enumerate
    have go : ∀ {A' : Around} {E : Value → Shared → Prop} {Q : Value → Shared → Prop}, Q (.ref hp.objs.size) ⟨hp.push { cls := .type "tuple_iterator", data := .fields #[.ref t, .int 0 0] }, g, d, tk, os⟩ → wpAny (model prog w) A' (pyIter (.ref t)) Q E ⟨hp, g, d, tk, os⟩ :=
      fun q => (begins_tuple t its).iter prog w _ _ ⟨hp, g, d, tk, os⟩ _ ht q
    wp_walk using go
    refine wpAny_stack_any fun st => wpAny_pure ?_
    split
    · rename_i c _ _ _ _ _
      cases (c == Value.type "enumerate") <;> (wp_walk using go; exact ⟨_, rfl, h⟩)
    · wp_walk using go
      exact ⟨_, rfl, h⟩
section
variable {prog : Program} {w : World} {A : Around} {E : Value → Shared → Prop} {s : Shared}
theorem call_new {t : Addr} {its : Array Value} {Q : Value → Shared → Prop} (ht : s.heap.IsTuple t its)
    (h : ∀ h', IsEnum h' (s.heap.objs.size + 1) s.heap.objs.size 0 .none → h'.IsTupleIter s.heap.objs.size t 0 → (∀ b o, s.heap.get? b = some o → h'.get? b = some o) → Q (.ref (s.heap.objs.size + 1)) { s with heap := h' }) :
    wpAny (model prog w) A (call (.type "enumerate") [.ref t]) Q E s := by
  refine callType_new F.called_enumerate (by decide) (F.typeCall_enumerate_1 _) (F.newCall_enumerate_1 _) (fun obj => F.args_object_init_2 obj _) F.entry_enumerate_new (new_meets t its) ⟨ht, ?_⟩
  have sz : (s.heap.push { cls := .type "tuple_iterator", data := .fields #[.ref t, .int 0 0] }).objs.size = s.heap.objs.size + 1 := Heap.size_push ..
  show _ ∧ _
  rw [sz]
  have en : IsEnum ((s.heap.push { cls := .type "tuple_iterator", data := .fields #[.ref t, .int 0 0] }).push { cls := .type "enumerate", data := .fields #[.none, .bool false, .ref s.heap.objs.size, rawInt 0, .none, .none] }) (s.heap.objs.size + 1) s.heap.objs.size 0 .none := by
    have q := Heap.get?_push_size (s.heap.push { cls := .type "tuple_iterator", data := .fields #[.ref t, .int 0 0] }) (o := { cls := .type "enumerate", data := .fields #[.none, .bool false, .ref s.heap.objs.size, rawInt 0, .none, .none] }) rfl
    rw [sz] at q
    exact q
  exact ⟨⟨_, en, rfl⟩, h _ en ⟨_, Heap.get?_push_of_some _ (Heap.get?_push_size _ rfl), rfl, rfl⟩ fun b o q => Heap.get?_push_of_some _ (Heap.get?_push_of_some _ q)⟩
end
end DLE
namespace DL
open PySem L2
/-- the tuple at a, each item in a new pair with its place -/
def Iet (K : PySem.W.Frag) (a : Addr) : It :=
  ⟨fun i H => ∃ (xs : List V) (x : V), SqT K H a xs ∧ xs[i]? = some x, fun i H v H' => ∃ T x, v = .ref T ∧ H T = none ∧ H' = upd H T (.tup [.int (i : Nat), x]) ∧ ∀ xs, SqT K H a xs → xs[i]? = some x, fun i H => ∃ xs : List V, SqT K H a xs ∧ xs.length ≤ i⟩
theorem turn_et {P : Program} {w : World} {K : PySem.W.Frag} {elts : List Expr} {kk : Nat} {tpos : Pos} (a e it : Addr) :
    Turn P w K (.Tuple elts kk tpos) (Iet K a) [e, it] e (fun i h => (∃ old, IsEnum h e it ((i : Nat) : Int) old) ∧ h.IsTupleIter it a i ∧ e ≠ it) where
  mem := by simp
  obj := fun i h st b hb => by
    obtain ⟨⟨old, he⟩, ⟨o, ho, hc, hd⟩, _⟩ := st
    have two : b = e ∨ b = it := by simpa using hb
    rcases two with rfl | rfl
    · exact ⟨_, he, fun v q => nomatch q⟩
    · exact ⟨o, ho, fun v q => by rw [hd] at q; cases q⟩
  keep := fun i h h' st k => let ⟨⟨old, he⟩, hi, hne⟩ := st; ⟨⟨old, k e (by simp) _ he⟩, hi.at fun o q => k it (by simp) o q, hne⟩
  item := by
    intro X hP hw hK hc i pins s σ H E I hf st hg
    subst hP hw hK
    obtain ⟨⟨old, he⟩, hit, hne⟩ := st
    obtain ⟨xs, x, hq, hx⟩ := hg
    obtain ⟨its, rv, tp, hz⟩ := I.tuple hq
    obtain ⟨u, hu, ru⟩ := rv.get hx
    have le : e < s.heap.objs.size := Heap.lt_size he
    have li : it < s.heap.objs.size := by obtain ⟨_, q, _⟩ := hit; exact Heap.lt_size q
    have na : a ≠ it := fun z => by
      obtain ⟨o1, q1, _, d1⟩ := hit
      obtain ⟨o2, q2, _, n2, d2⟩ := tp
      rw [z, q1] at q2; cases q2
      rw [d1] at d2; cases d2
    have na2 : a ≠ e := fun z => by
      obtain ⟨o2, q2, _, n2, d2⟩ := tp
      rw [z, show s.heap.get? e = _ from he] at q2; cases q2
      cases d2
    have hlt : i < its.toArray.size := by
      have := (List.getElem?_eq_some_iff.mp hu).1
      simpa using this
    refine wpAny_pyNext_enum_itemD (Draws.tuple (A := X.A.in1) (I.ok.hd hc) it a na its.toArray) he ⟨hit, tp⟩ hlt hne (by simp [hne, Ne.symm na2]) fun y h' tk hy ho hst hT hsz hk => ?_
    have ey : y = u := by
      have : its[i]? = some y := by simpa using hy
      rw [hu] at this
      exact (Option.some.inj this).symm
    subst ey
    refine ⟨_, rfl, wpAny_letOwnedTupleGo_enum (s := { s with heap := h', toks := tk + 1 }) ho fun h'' he' sb => ?_⟩
    have hT2 : h''.get? s.heap.objs.size = some { cls := .type "tuple", data := .seq #[.int i tk, y] } := (sb.2 _ (Nat.ne_of_gt le)).trans hT
    have new : ObjOk X.prog X.w (upd H s.heap.objs.size (.tup [.int (i : Nat), x])) h'' s.heap.objs.size (.tup [.int (i : Nat), x]) :=
      ⟨by show 2 ≤ sizeLine; decide, [.int i tk, y], .cons ⟨_, rfl⟩ (.cons ru .nil), ⟨_, hT2, rfl, _, rfl⟩⟩
    have I1 : Inv X pins σ (upd H s.heap.objs.size (.tup [.int (i : Nat), x])) { s with heap := h'', toks := tk + 1 } :=
      I.turnedNew (ch := [e, it]) (fun b ob hb q => (sb.2 b (fun z => hb (by simp [z]))).trans (hk b ob (fun z => hb (by simp [z])) (fun z => hb (by simp [z])) q)) hf (Nat.le_refl _) new
    refine ⟨.ref s.heap.objs.size, _, I1, rfl, ⟨_, x, rfl, I.hok.fresh (Nat.le_refl _), rfl, fun ys hy => by rw [I.tuple_inj hy hq]; exact hx⟩, ⟨⟨y, ?_⟩, hst.1.at fun o q => (sb.2 it (Ne.symm hne)).trans q, hne⟩, fun b hb => ?_⟩
    · rw [show ((i + 1 : Nat) : Int) = (i : Int) + 1 by omega]; exact he'
    · have lb : b < s.heap.objs.size := by
        have two : b = e ∨ b = it := by simpa using hb
        rcases two with rfl | rfl
        · exact le
        · exact li
      rw [upd_ne (Nat.ne_of_lt lb)]
      exact (hf b hb).1
  done := by
    intro X hP hw hK hc i pins s σ H E I hf st hg
    subst hP hw hK
    obtain ⟨⟨old, he⟩, hit, hne⟩ := st
    obtain ⟨xs, hq, hx⟩ := hg
    obtain ⟨its, rv, tp, hz⟩ := I.tuple hq
    obtain ⟨f0, f1, f2, f3, f4, f5⟩ := hf it (by simp)
    have na : a ≠ it := fun z => by
      obtain ⟨o1, q1, _, d1⟩ := hit
      obtain ⟨o2, q2, _, n2, d2⟩ := tp
      rw [z, q1] at q2; cases q2
      rw [d1] at d2; cases d2
    have none_at : its.toArray[i]? = none := by
      have := rv.length
      simp
      omega
    have D : Draws X.prog X.w X.A.in1 it [it, a] i (fun _ _ => True) (fun j h => j = i ∧ h.IsTupleIter it a j ∧ h.IsTuple a its.toArray) :=
      { live := fun _ _ st => let ⟨_, ⟨o, ho, _⟩, _⟩ := st; ⟨o, ho⟩
        frame := fun _ _ _ st hk => ⟨st.1, st.2.1.at fun o e => hk it (by simp) o e, st.2.2.at fun o e => hk a (by simp) o e⟩
        item := fun j s Q E hj st hQ => absurd st.1 (Nat.ne_of_lt hj)
        done := fun s Q E st hE => wpAny_nextOf_tuple_end (I.ok.hd hc) st.2.1 st.2.2 none_at hE }
    exact wpAny_pyNext_enum_endD D he ⟨rfl, hit, tp⟩ fun h' eb => ⟨rfl, I.turned (t' := s.toks) (fun b o hb q => eb b o hb q) f0 f1 f3 f4 f5⟩
  self := fun A i s Q E st h => let ⟨⟨_, he⟩, _⟩ := st; wpAny_pyIter_enum he h
def iEt (K : PySem.W.Frag) (ta : TA) : TI := fun σ H R => ta σ H fun vs H1 => ∃ a xs, vs = [.ref a] ∧ SqT K H1 a xs ∧ R (Iet K a) H1
theorem pi_et {X : Cx} {e : Expr} {ta : TA} {p pos tpos : Pos} {elts : List Expr} {kk : Nat} (hg : Gl X "enumerate") (hm : X.mg "enumerate" = none) (ha : PA X [e] ta) (hs : starEach [e] X.env = [(false, eval e X.env)] := by rfl) :
    PI X (.Tuple elts kk tpos) (.Call (.Name "enumerate" p) [e] [] pos) (iEt X.K ta) := by
  refine ⟨fun pins s σ H R I h => ?_⟩
  refine PyProof.Rows.Call_ (ld_blt I hg hm PyProof.Rows.boot_enumerate (PyProof.Rows.callWith_type1 (thn (ha.run pos pins s σ H _ I h) fun us s1 ⟨vs, H1, I1, r1, q1⟩ => ?_) hs rfl))
  obtain ⟨a, xs, ex, hq, q⟩ := q1
  subst ex
  obtain ⟨u, rfl, r⟩ := vals1 r1
  cases r
  obtain ⟨its, rv, tp, hz⟩ := I1.tuple hq
  refine DLE.call_new tp fun h' he hit hk => wpAny_pyIter_enum he ?_
  refine ⟨s1.heap.objs.size + 1, [s1.heap.objs.size + 1, s1.heap.objs.size], _, _, H1, rfl, I1.kept (t' := s1.toks) hk, turn_et a (s1.heap.objs.size + 1) s1.heap.objs.size, ⟨⟨.none, he⟩, hit, Nat.succ_ne_self _⟩, fun b hb => ?_, q⟩
  have hle : s1.heap.objs.size ≤ b := by
    rcases (show b = s1.heap.objs.size + 1 ∨ b = s1.heap.objs.size by simpa using hb) with z | z
    · rw [z]; exact Nat.le_add_right _ _
    · rw [z]; exact Nat.le_refl _
  exact I1.fpOk hle (I1.hok.fresh hle)
theorem walk_et {K : PySem.W.Frag} {a : Addr} {xs : List V} : Walk (Iet K a) xs.length (fun H => SqT K H a xs) (YPair (fun i => some (.int (i : Nat))) (fun i => xs[i]?)) := by
  refine ⟨fun i _ hi q => ⟨xs, xs[i], q, by simp [hi]⟩, fun _ q => ⟨xs, q, Nat.le_refl _⟩, fun i H v H' _ q y => ?_⟩
  obtain ⟨T, x, h1, h2, h3, h4⟩ := y
  exact ⟨T, .int (i : Nat), x, h1, h2, h3, rfl, h4 xs q⟩
/-! ### for i, x in enumerate(xs) -/
def enumD (xs : List PyData) : List PyData := xs.zipIdx.map fun p => .tuple [.int p.2, p.1]
theorem enumD_get {xs : List PyData} {i : Nat} {d : PyData} (h : (enumD xs)[i]? = some d) : ∃ x, xs[i]? = some x ∧ d = .tuple [.int i, x] := by
  unfold enumD at h
  rw [List.getElem?_map, List.getElem?_zipIdx] at h
  obtain ⟨q, h1, rfl⟩ := Option.map_eq_some_iff.mp h
  obtain ⟨x, h2, rfl⟩ := Option.map_eq_some_iff.mp h1
  exact ⟨x, h2, by simp⟩
def gEnum : List PyData → Option (List PyData)
  | [.list xs] => some (enumD xs)
  | [.tuple xs] => some (enumD xs)
  | _ => none
theorem di_enum {X : Cx} {W : WX} {p pos : Pos} {a : Expr} {f : M (List PyData)} {tpos : Pos} {elts : List Expr} {kk : Nat} (hm : X.mg "enumerate" = none) (ha : DA X W [a] f) (hg : Gl X "enumerate" := by rfl) (hs : starEach [a] X.env = [(false, eval a X.env)] := by rfl) :
    DI X W false (.Tuple elts kk tpos) (.Call (.Name "enumerate" p) [a] [] pos) (f >>= fun ds => M.lift (gEnum ds)) := by
  refine PI_mono (PI_or (pi_enum hg hm ha hs) (pi_et hg hm ha hs)) fun σ H R ⟨F, P, S, env, rel, post⟩ => ?_
  have len : ∀ {S1 : Hp} {xs : List PyData} {as : List V}, RpAll X.K S1 as xs → (enumD xs).length = as.length := fun {S1 xs as} h1 => by
    unfold enumD; rw [List.length_map, List.length_zipIdx, h1.length]
  have prs : ∀ {S1 : Hp} {xs : List PyData} {as : List V}, RpAll X.K S1 as xs → ∀ (i : Nat) (d : PyData), (enumD xs)[i]? = some d → ∃ x y dx dy, (some (V.int (i : Nat)) : Option V) = some x ∧ as[i]? = some y ∧ d = .tuple [dx, dy] ∧ Rp X.K S1 x dx ∧ Rp X.K S1 y dy := fun {S1 xs as} h1 i d hd => by
    obtain ⟨dx, g1, rfl⟩ := enumD_get hd
    obtain ⟨x, k1, k2⟩ := h1.get' g1
    exact ⟨.int i, x, .int i, dx, rfl, k1, rfl, .int _, k2⟩
  cases hf : f env with
  | bad => rw [bind_run, hf] at post; exact post.elim
  | exc x e1 =>
    rw [bind_run, hf] at post
    refine .inl ⟨F, P, S, env, rel, ?_⟩
    rw [hf]; exact post
  | ok ds e1 =>
    rw [bind_run, hf] at post
    obtain ⟨zs, hz, q⟩ := Post.lift post
    unfold gEnum at hz
    split at hz
    · cases hz
      refine .inl ⟨F, P, S, env, rel, ?_⟩
      rw [hf]
      intro vs S1 H1 rel1 ex1 rp1
      obtain ⟨v, rfl, r⟩ := rp1.one_inv
      obtain ⟨a, xs, rfl, g1, r1⟩ := r.lst_inv
      refine ⟨a, xs, rfl, rel1.sh.l (SqL.of g1), q _ S1 H1 rel1 ex1 ?_⟩
      refine wk_pair (G := fun H => SqL X.K H a xs) ?_ (fun H e => e.l (SqL.of g1)) (prs r1)
      rw [len r1]; exact walk_enum
    · cases hz
      refine .inr ⟨F, P, S, env, rel, ?_⟩
      rw [hf]
      intro vs S1 H1 rel1 ex1 rp1
      obtain ⟨v, rfl, r⟩ := rp1.one_inv
      obtain ⟨a, xs, rfl, g1, r1⟩ := r.tup_inv
      refine ⟨a, xs, rfl, rel1.sh.t g1, q _ S1 H1 rel1 ex1 ?_⟩
      refine wk_pair (G := fun H => SqT X.K H a xs) ?_ (fun H e => e.t g1) (prs r1)
      rw [len r1]; exact walk_et
    · cases hz
end DL
namespace DL
open PySem L2
theorem hu65 {A : Around} {k : Nat} (hr : RoomG k A) : A.units + 65 < cLine := by have := hr.un; omega
theorem cx_blk {X : Cx} {s : Shared} {H : Hp} {scope : Scope} {cenv : Env} {fp : List Addr} : Ctx (X.blk s H scope cenv fp) W0 := ⟨takes0, PassesOwn.never⟩
theorem bt_len : bootBuiltins "len" = some (.builtin "len") := by decide +kernel
theorem bt_all : bootBuiltins "all" = some (.builtin "all") := by decide +kernel
theorem bt_any : bootBuiltins "any" = some (.builtin "any") := by decide +kernel
theorem bt_repr : bootBuiltins "repr" = some (.builtin "repr") := by decide +kernel
theorem bt_sorted : bootBuiltins "sorted" = some (.builtin "sorted") := by decide +kernel
theorem bt_min : bootBuiltins "min" = some (.builtin "min") := by decide +kernel
theorem bt_tuple : bootBuiltins "tuple" = some (.type "tuple") := by decide +kernel
theorem bt_list : bootBuiltins "list" = some (.type "list") := by decide +kernel
theorem bt_int : bootBuiltins "int" = some (.type "int") := by decide +kernel
theorem bt_str : bootBuiltins "str" = some (.type "str") := by decide +kernel
theorem bt_bool : bootBuiltins "bool" = some (.type "bool") := by decide +kernel
theorem bt_dict : bootBuiltins "dict" = some (.type "dict") := by decide +kernel
section
variable {P : Program} {w : World} {K : PySem.W.Frag} {mg : Str → Option Value} {base h : Heap} {x : Str}
theorem glob_str {z : Str} (e : ∃ t, mg x = some (.str z t)) (ok : TxOk z := by decide +kernel) : Glob K mg x (.str z) := by
  obtain ⟨t, e⟩ := e
  exact ⟨.str z, _, e, ⟨t, rfl⟩, fun S => .str z ok⟩
theorem glob_int {i : Int} (e : ∃ t, mg x = some (.int i t)) : Glob K mg x (.int i) := by
  obtain ⟨t, e⟩ := e
  exact ⟨.int i, _, e, ⟨t, rfl⟩, fun S => .int i⟩
/-- the object of a module's tuple has no dict -/
def noD (K : PySem.W.Frag) (x : Str) : Bool := match K.lookup (He.ga K x) with
  | some o => o.dict.isNone
  | none => false
theorem PlT.ofK {S : Hp} {xs : List V} (h : ∀ S, SqT K S (He.ga K x) xs) (n : noD K x = true) : PlT K S (He.ga K x) xs := by
  rcases h fun _ => none with (h | ⟨o, h⟩) | ⟨o, its, k, h1, h2, h3, h4, h5⟩
  · exact nomatch h
  · exact nomatch h
  · refine .inr ⟨o, its, k, h1, h2, h3, h4, h5, ?_⟩
    unfold noD at n
    rw [h1] at n
    exact Option.isNone_iff_eq_none.mp n
theorem glob_tup {vs : List He.Dv} {ds : List PyData} (e : mg x = some (.ref (He.ga K x))) (n : noD K x = true) (t : He.tupB K x vs = true) (r : ∀ S, RpAll K S (vs.map (He.Dv.v K)) ds) : Glob K mg x (.tuple ds) :=
  ⟨.ref _, _, e, rfl, fun S => .tup (PlT.ofK (fun S => He.tupB_ok t S) n) (r S)⟩
theorem exc_cl (X : K.In h) (G : h.Ns mainGlobals mg) (c : (He.Fa.exc x).ok K = true) (g : (He.Fa.glo x).ok K = true) : ExcCl K mg x := by
  obtain ⟨h1, h2, h3, h4⟩ := He.exc_ok c
  exact ⟨He.ga K x, h1, He.glo_ok X G g, h2, h3, h4⟩
/-- a def without defaults -/
theorem fn_is {k : Nat} {sp : Sp} {ps : List Str} {params : Arguments} {body : List Stmt} {scope : Scope} {kws : List (Str × V)} {f : Addr} {fd : FuncData} {qual : Str} (F : FunD K x qual params body scope [] kws f fd) (hm : mg x = some (.ref f))
    (b : ∀ (kV doc pm : Value) (an : Option Addr) (cdv ct : Value) (us : List Value), us.length = ps.length → bindArgs (PySem.W.fnOf x qual params body scope .none kV doc pm an cdv ct) ⟨us, []⟩ = pure (ps.zip us))
    (ok : FnG P w K mg base (L2.CX P w) k f fd ps sp) : FnIs P w K mg base x k sp := ⟨f, fd, ps, hm, F.kp, F.bindsN b, ok⟩
/-- a def with defaults, its last ones left out from the j-th default on -/
theorem fn_isD {k : Nat} {sp : Sp} {ps : List Str} {params : Arguments} {body : List Stmt} {scope : Scope} {dvs : List V} {kws : List (Str × V)} {f : Addr} {fd : FuncData} {qual : Str} {dds : List PyData} (n j : Nat) (F : FunD K x qual params body scope dvs kws f fd) (hm : mg x = some (.ref f)) (hd : dvs ≠ [])
    (hn : n + (dvs.length - j) = ps.length) (b : ∀ (T : Addr) (kV doc pm : Value) (an : Option Addr) (cdv ct : Value) (us its : List Value), us.length = n → its.length = dvs.length →
      ∃ k, bindArgs (PySem.W.fnOf x qual params body scope (.ref T) kV doc pm an cdv ct) ⟨us, []⟩ = seqItems? (.ref T) >>= k ∧ k (some its.toArray) = pure (ps.zip (us ++ its.drop j)))
    (hr : ∀ S, RpAll K S (dvs.drop j) dds) (ok : FnG P w K mg base (L2.CX P w) k f fd ps sp) : FnIsD P w K mg base x k dds sp := by
  obtain ⟨ds, h1, h2⟩ := F.binds1 n j hd hn b
  exact ⟨f, fd, ps, ds, _, hm, F.kp, h1, hr, h2, ok⟩
/-- .. called with all its parameters (they are given one by one, but the defaults stand) -/
theorem fn_isF {k : Nat} {sp : Sp} (G : FnIsD P w K mg base x k [] sp) : FnIs P w K mg base x k sp := by
  obtain ⟨f, fd, ps, ds, dvs, h1, h2, h3, h4, h5, h6⟩ := G.ex
  have e : dvs = [] := by have := (h4 fun _ => none).length; cases dvs with | nil => rfl | cons _ _ => cases this
  subst e
  cases h3
  exact ⟨f, fd, ps, h1, h2, h5, h6⟩
/-- nothing is raised -/
theorem fn_calm {k : Nat} {f : Addr} {fd : FuncData} {ps : List Str} {sp : Sp} (F : FnG P w K mg base (L2.CX P w) k f fd ps sp) : FnG P w K mg base CX0 k f fd ps (fun vs H Q _ => sp vs H Q E0) := by
  refine ⟨fun vs H Q E h => F.len vs H Q E0 h, fun A outer s H args us vs Q E hr e0 hb hv hs => codeAny_mono (F.run A outer s H args us vs Q E0 hr e0 hb hv hs) fun r s' q => ?_⟩
  cases r with
  | ok fl => cases fl <;> exact q
  | error e =>
    obtain ⟨_, _, _, _, _, _, _, _, _, _, _, _, z⟩ := q
    exact z.elim
theorem SqL_rest {H : Hp} {a : Addr} {xs : List V} (h : SqL K H a xs) : SqL K (rest H fun _ => none) a xs := by
  rcases h with (h | ⟨o, h⟩) | h
  · exact .inl (.inl (rest_at rfl h fun ps z => nomatch z))
  · exact .inl (.inr ⟨o, rest_at rfl h fun ps z => nomatch z⟩)
  · exact .inr h
theorem law_sp {g : List PyData → List PyData → Res PyData} {n : Nat} (hg : ∀ ns : List Int, ns.length ≤ n → g (ns.map .int) [] = .ok (.bool true)) (H : Hp) (a : Addr) (ns : List Int) (hl : ns.length ≤ n) (tb : TbH K H) (hS : SqL K H a (ns.map V.int)) :
    spC K mg g [.ref a] H (fun v _ => v = .bl true) E0 := by
  refine ⟨fun _ => none, rest H fun _ => none, a, ns.map V.int, ns.map .int, [], [], rfl, SqL_rest hS, ?_, ⟨rest_ex, (fun _ _ e => nomatch e), (fun _ _ _ => .inl rfl), tb, rest_nt, NoTb.none⟩, .nil, ?_⟩
  · clear hl hS
    induction ns with
    | nil => exact .nil
    | cons n ns ih => exact .cons (.int n) ih
  · rw [hg ns hl]
    exact fun v S' H' _ _ r => r.bl_inv
end
end DL
/-! DLC: how the mirrors are reckoned with -/
namespace DL
open PySem L2
theorem ofRes_ok {α : Type} (a : α) (e : Sl) : M.ofRes (.ok a) e = .ok a e := rfl
theorem ofRes_exc {α : Type} (x : Exn) (e : Sl) : (M.ofRes (.exc x) : M α) e = .exc x e := rfl
theorem lift_some {α : Type} (a : α) (e : Sl) : M.lift (some a) e = .ok a e := rfl
theorem lift_none {α : Type} (e : Sl) : (M.lift none : M α) e = .bad := rfl
theorem raise_run {α : Type} (x : Exn) (e : Sl) : (M.raise x : M α) e = .exc x e := rfl
theorem setD_run (i : Nat) (d : PyData) (e : Sl) : M.setD i d e = .ok () (e.set i (some (.dat d))) := rfl
theorem setL_run (i : Nat) (d : List PyData) (e : Sl) : M.setL i d e = .ok () (e.set i (some (.lis false d))) := rfl
theorem get_dat {i : Nat} {e : Sl} {d : PyData} (h : e[i]? = some (some (.dat d))) : M.get i e = .ok d e := by unfold M.get; rw [h]
theorem tset_run {t : Tg} {d : PyData} {e e' : Sl} (h : t.set d e = some e') : M.tset t d e = .ok () e' := by unfold M.tset; rw [h]
theorem bind_ok {α β : Type} {f : M α} {k : α → M β} {e e' : Sl} {a : α} (h : f e = .ok a e') : (f >>= k) e = k a e' := by rw [bind_run, h]; rfl
theorem mSeq_nx {f g : M Fl} {e e' : Sl} (h : f e = .ok .nx e') : mSeq f g e = g e' := by unfold mSeq; rw [bind_ok h]
theorem mSeq_rt {f g : M Fl} {e e' : Sl} {d : PyData} (h : f e = .ok (.rt d) e') : mSeq f g e = .ok (.rt d) e' := by unfold mSeq; rw [bind_ok h]; rfl
theorem mSeq_exc {f g : M Fl} {e e' : Sl} {x : Exn} (h : f e = .exc x e') : mSeq f g e = .exc x e' := by unfold mSeq; rw [bind_run, h]; rfl
theorem runA_eq {n N : Nat} {f : M Fl} {ds : List PyData} {d : PyData} {e : Sl} (hl : ds.length = n) (h : f (startE N (ds.map .dat)) = .ok (.rt d) e) : runA n N f ds = .ok d := by unfold runA; rw [if_pos hl, h]
theorem runA_nx {n N : Nat} {f : M Fl} {ds : List PyData} {e : Sl} (hl : ds.length = n) (h : f (startE N (ds.map .dat)) = .ok .nx e) : runA n N f ds = .ok .none := by unfold runA; rw [if_pos hl, h]
/-! ### loops -/
theorem forM_nil {t : Tg} {b : M Fl} {e : Sl} : forM t b [] e = .ok .nx e := rfl
theorem forM_nx {t : Tg} {b : M Fl} {d : PyData} {ds : List PyData} {e e1 e2 : Sl} (h1 : t.set d e = some e1) (h2 : b e1 = .ok .nx e2) : forM t b (d :: ds) e = forM t b ds e2 := by
  conv => lhs; unfold forM
  rw [bind_ok (tset_run h1), bind_ok h2]
theorem forM_rt {t : Tg} {b : M Fl} {d v : PyData} {ds : List PyData} {e e1 e2 : Sl} (h1 : t.set d e = some e1) (h2 : b e1 = .ok (.rt v) e2) : forM t b (d :: ds) e = .ok (.rt v) e2 := by
  unfold forM
  rw [bind_ok (tset_run h1), bind_ok h2]
  rfl
/-- a word that every turn keeps -/
theorem forM_keep {t : Tg} {b : M Fl} (I : Sl → Prop) : ∀ (ds : List PyData) (e : Sl), I e → (∀ d ∈ ds, ∀ e, I e → ∃ e1 e2, t.set d e = some e1 ∧ b e1 = .ok .nx e2 ∧ I e2) → ∃ e', forM t b ds e = .ok .nx e' ∧ I e'
  | [], e, h, _ => ⟨e, rfl, h⟩
  | d :: ds, e, h, st => by
    obtain ⟨e1, e2, h1, h2, h3⟩ := st d List.mem_cons_self e h
    rw [forM_nx h1 h2]
    exact forM_keep I ds e2 h3 fun d' hd => st d' (List.mem_cons_of_mem _ hd)
/-- a word over what was taken so far -/
theorem forM_fold {t : Tg} {b : M Fl} (I : List PyData → Sl → Prop) : ∀ (ds pre : List PyData) (e : Sl), I pre e → (∀ d ∈ ds, ∀ pre e, I pre e → ∃ e1 e2, t.set d e = some e1 ∧ b e1 = .ok .nx e2 ∧ I (pre ++ [d]) e2) → ∃ e', forM t b ds e = .ok .nx e' ∧ I (pre ++ ds) e'
  | [], pre, e, h, _ => ⟨e, rfl, by simpa using h⟩
  | d :: ds, pre, e, h, st => by
    obtain ⟨e1, e2, h1, h2, h3⟩ := st d List.mem_cons_self pre e h
    rw [forM_nx h1 h2]
    obtain ⟨e', g1, g2⟩ := forM_fold I ds (pre ++ [d]) e2 h3 fun d' hd => st d' (List.mem_cons_of_mem _ hd)
    exact ⟨e', g1, by simpa using g2⟩
/-- a loop that hands back at the first thing of which p holds -/
theorem forM_find {t : Tg} {b : M Fl} (I : Sl → Prop) (p : PyData → Bool) (v : PyData → PyData) : ∀ (ds : List PyData) (e : Sl), I e → (∀ d ∈ ds, ∀ e, I e → ∃ e1 e2, t.set d e = some e1 ∧ b e1 = .ok (if p d = true then .rt (v d) else .nx) e2 ∧ I e2) →
    ∃ e', forM t b ds e = .ok (match ds.find? p with | some d => .rt (v d) | none => .nx) e' ∧ I e'
  | [], e, h, _ => ⟨e, rfl, h⟩
  | d :: ds, e, h, st => by
    obtain ⟨e1, e2, h1, h2, h3⟩ := st d List.mem_cons_self e h
    by_cases hp : p d = true
    · rw [if_pos hp] at h2
      refine ⟨e2, ?_, h3⟩
      rw [forM_rt h1 h2, List.find?_cons_of_pos hp]
    · rw [if_neg hp] at h2
      rw [forM_nx h1 h2, List.find?_cons_of_neg hp]
      exact forM_find I p v ds e2 h3 fun d' hd => st d' (List.mem_cons_of_mem _ hd)
/-! ### comprehensions -/
theorem restore_wipe (e : Sl) : ∀ vs : List Nat, restoreE (wipeE e vs) e vs = e := by
  intro vs
  apply List.ext_getElem?
  intro i
  by_cases hi : i ∈ vs
  · have key : ∀ (us : List Nat), i ∈ us → (restoreE (wipeE e vs) e us)[i]? = e[i]? := by
      intro us
      induction us with
      | nil => intro h; cases h
      | cons v us ih =>
        intro h
        unfold restoreE
        by_cases z : v = i
        · subst z
          by_cases hl : v < (restoreE (wipeE e vs) e us).length
          · rw [List.getElem?_set_self hl]
            rw [restoreE_length, wipeE_length] at hl
            rw [List.getElem?_eq_getElem hl]; rfl
          · rw [List.getElem?_eq_none (by simpa using hl)]
            rw [restoreE_length, wipeE_length] at hl
            rw [List.getElem?_eq_none (by omega)]
        · rw [List.getElem?_set_ne z]
          exact ih ((List.mem_cons.mp h).resolve_left fun q => z q.symm)
    exact key vs hi
  · rw [restoreE_out hi, wipeE_out hi]
theorem lcGo_fold {vs : List Nat} {t : Tg} {tt : M Bool} {fe : M PyData} (I : List PyData → List PyData → Sl → Prop) : ∀ (ds pre acc : List PyData) (e : Sl), I pre acc e →
    (∀ d ∈ ds, ∀ pre acc e, I pre acc e → ∃ e1 b e2, t.set d e = some e1 ∧ tt e1 = .ok b e2 ∧ (b = true → ∃ y e3, fe e2 = .ok y e3 ∧ acc.length + 1 ≤ sizeLine ∧ I (pre ++ [d]) (acc ++ [y]) (wipeE e3 vs)) ∧ (b = false → I (pre ++ [d]) acc (wipeE e2 vs))) →
    ∃ acc' e', lcGo vs t tt fe ds acc e = .ok acc' e' ∧ I (pre ++ ds) acc' e'
  | [], pre, acc, e, h, _ => ⟨acc, e, rfl, by simpa using h⟩
  | d :: ds, pre, acc, e, h, st => by
    obtain ⟨e1, b, e2, h1, h2, h3, h4⟩ := st d List.mem_cons_self pre acc e h
    unfold lcGo
    rw [bind_ok (tset_run h1), bind_ok h2]
    cases b with
    | true =>
      obtain ⟨y, e3, g1, g2, g3⟩ := h3 rfl
      obtain ⟨a', e', k1, k2⟩ := lcGo_fold I ds (pre ++ [d]) (acc ++ [y]) _ g3 fun d' hd => st d' (List.mem_cons_of_mem _ hd)
      refine ⟨a', e', ?_, by simpa using k2⟩
      rw [if_pos rfl, bind_ok g1, show szOk (acc.length + 1) = some () from if_pos g2]
      exact k1
    | false =>
      obtain ⟨a', e', k1, k2⟩ := lcGo_fold I ds (pre ++ [d]) acc _ (h4 rfl) fun d' hd => st d' (List.mem_cons_of_mem _ hd)
      refine ⟨a', e', ?_, by simpa using k2⟩
      rw [if_neg Bool.false_ne_true]
      exact k1
theorem mLC_eq {vs : List Nat} {t : Tg} {tt : M Bool} {fe : M PyData} {ds acc : List PyData} {e e' : Sl} (hn : noLis e vs = true) (h : lcGo vs t tt fe ds [] (wipeE e vs) = .ok acc e') : mLC vs t tt fe ds e = .ok (.list acc) (restoreE e' e vs) := by
  unfold mLC; rw [if_pos hn, h]
/-- a comprehension that leaves all else: [g d for d in ds if p d] -/
theorem mLC_pure {vs : List Nat} {t : Tg} {tt : M Bool} {fe : M PyData} {ds : List PyData} {e : Sl} (p : PyData → Bool) (g : PyData → PyData) (hn : noLis e vs = true) (hl : ds.length ≤ sizeLine)
    (st : ∀ d ∈ ds, ∃ e1 e2, t.set d (wipeE e vs) = some e1 ∧ tt e1 = .ok (p d) e2 ∧ wipeE e2 vs = wipeE e vs ∧ (p d = true → ∃ e3, fe e2 = .ok (g d) e3 ∧ wipeE e3 vs = wipeE e vs)) :
    mLC vs t tt fe ds e = .ok (.list ((ds.filter p).map g)) e := by
  have key : ∀ (rs pre : List PyData), ds = pre ++ rs → lcGo vs t tt fe rs ((pre.filter p).map g) (wipeE e vs) = .ok ((ds.filter p).map g) (wipeE e vs) := by
    intro rs
    induction rs with
    | nil => intro pre hp; rw [hp, List.append_nil]; rfl
    | cons d rs ih =>
      intro pre hp
      obtain ⟨e1, e2, h1, h2, h3, h4⟩ := st d (by rw [hp]; simp)
      unfold lcGo
      rw [bind_ok (tset_run h1), bind_ok h2]
      have nx := ih (pre ++ [d]) (by rw [hp]; simp)
      cases hpd : p d with
      | true =>
        obtain ⟨e3, g1, g2⟩ := h4 hpd
        have hsz : ((pre.filter p).map g).length + 1 ≤ sizeLine := by
          have a1 : (pre.filter p).length ≤ pre.length := List.length_filter_le _ _
          have a2 : ds.length = pre.length + (rs.length + 1) := by rw [hp]; simp
          rw [List.length_map]; omega
        rw [if_pos rfl, bind_ok g1, show szOk (((pre.filter p).map g).length + 1) = some () from if_pos hsz]
        show lcGo vs t tt fe rs ((pre.filter p).map g ++ [g d]) (wipeE e3 vs) = _
        rw [g2, ← nx]
        simp [hpd]
      | false =>
        rw [if_neg Bool.false_ne_true]
        show lcGo vs t tt fe rs ((pre.filter p).map g) (wipeE e2 vs) = _
        rw [h3, ← nx]
        simp [hpd]
  have := mLC_eq hn (key ds [] rfl)
  rw [this, restore_wipe]
/-! ### data that is equal or not -/
theorem simple_none : simple .none = true := by decide
theorem simple_bool (b : Bool) : simple (.bool b) = true := by simp [simple, noDict, PyData.depth]
theorem simple_int (i : Int) : simple (.int i) = true := by simp [simple, noDict, PyData.depth]
theorem simple_str (s : Str) : simple (.str s) = true := by simp [simple, noDict, PyData.depth]
theorem gEq_of {a b : PyData} (ha : simple a = true) (hb : simple b = true) : gEq a b = some (.bool (PyData.eqv a b)) := if_pos ⟨ha, hb⟩
theorem gNe_of {a b : PyData} (ha : simple a = true) (hb : simple b = true) : gNe a b = some (.bool (!PyData.eqv a b)) := if_pos ⟨ha, hb⟩
theorem gEq_str (a b : Str) : gEq (.str a) (.str b) = some (.bool (a == b)) := by rw [gEq_of (simple_str a) (simple_str b)]; simp [PyData.eqv]
theorem gNe_str (a b : Str) : gNe (.str a) (.str b) = some (.bool (!(a == b))) := by rw [gNe_of (simple_str a) (simple_str b)]; simp [PyData.eqv]
theorem gEq_int (a b : Int) : gEq (.int a) (.int b) = some (.bool (a == b)) := by rw [gEq_of (simple_int a) (simple_int b)]; simp [PyData.eqv]
theorem gNe_int (a b : Int) : gNe (.int a) (.int b) = some (.bool (!(a == b))) := by rw [gNe_of (simple_int a) (simple_int b)]; simp [PyData.eqv]
theorem szOk_ok {n : Nat} (h : n ≤ sizeLine) : szOk n = some () := if_pos h
theorem mkTup_ok {ds : List PyData} (h : ds.length ≤ sizeLine) : mkTup ds = some (.tuple ds) := if_pos h
theorem mkLst_ok {ds : List PyData} (h : ds.length ≤ sizeLine) : mkLst ds = some (.list ds) := if_pos h
theorem le_line {n : Nat} (h : n ≤ 1000) : n ≤ sizeLine := Nat.le_trans h (by decide)
end DL
namespace DL
open PySem L2
theorem lcGo_all {vs : List Nat} {t : Tg} {tt : M Bool} {fe : M PyData} (all : List PyData) (I : List PyData → List PyData → Sl → Prop)
    (st : ∀ pre d rest acc e, all = pre ++ d :: rest → I pre acc e → ∃ e1 b e2, t.set d e = some e1 ∧ tt e1 = .ok b e2 ∧ (b = true → ∃ y e3, fe e2 = .ok y e3 ∧ I (pre ++ [d]) (acc ++ [y]) (wipeE e3 vs)) ∧ (b = false → I (pre ++ [d]) acc (wipeE e2 vs)))
    (hl : all.length ≤ sizeLine) : ∀ (rest pre acc : List PyData) (e : Sl), all = pre ++ rest → acc.length ≤ pre.length → I pre acc e → ∃ acc' e', lcGo vs t tt fe rest acc e = .ok acc' e' ∧ I all acc' e' ∧ acc'.length ≤ all.length
  | [], pre, acc, e, ha, hc, h => ⟨acc, e, rfl, by rw [ha]; simpa using h, by rw [ha]; simpa using hc⟩
  | d :: ds, pre, acc, e, ha, hc, h => by
    obtain ⟨e1, b, e2, h1, h2, h3, h4⟩ := st pre d ds acc e ha h
    have hn : pre.length + 1 ≤ all.length := by rw [ha]; simp
    unfold lcGo
    rw [bind_ok (tset_run h1), bind_ok h2]
    cases b with
    | true =>
      obtain ⟨y, e3, g1, g3⟩ := h3 rfl
      obtain ⟨a', e', k1, k2⟩ := lcGo_all all I st hl ds (pre ++ [d]) (acc ++ [y]) _ (by rw [ha]; simp) (by simpa using hc) g3
      refine ⟨a', e', ?_, k2⟩
      rw [if_pos rfl, bind_ok g1, show szOk (acc.length + 1) = some () from if_pos (by omega)]
      exact k1
    | false =>
      obtain ⟨a', e', k1, k2⟩ := lcGo_all all I st hl ds (pre ++ [d]) acc _ (by rw [ha]; simp) (by simp; omega) (h4 rfl)
      refine ⟨a', e', ?_, k2⟩
      rw [if_neg Bool.false_ne_true]
      exact k1
theorem mLC_all {vs : List Nat} {t : Tg} {tt : M Bool} {fe : M PyData} (all : List PyData) (e : Sl) (I : List PyData → List PyData → Sl → Prop) (hn : noLis e vs = true) (hl : all.length ≤ sizeLine) (h0 : I [] [] (wipeE e vs))
    (st : ∀ pre d rest acc e, all = pre ++ d :: rest → I pre acc e → ∃ e1 b e2, t.set d e = some e1 ∧ tt e1 = .ok b e2 ∧ (b = true → ∃ y e3, fe e2 = .ok y e3 ∧ I (pre ++ [d]) (acc ++ [y]) (wipeE e3 vs)) ∧ (b = false → I (pre ++ [d]) acc (wipeE e2 vs))) :
    ∃ acc e', mLC vs t tt fe all e = .ok (.list acc) (restoreE e' e vs) ∧ I all acc e' ∧ acc.length ≤ all.length := by
  obtain ⟨acc, e', h1, h2⟩ := lcGo_all all I st hl all [] [] _ rfl (Nat.le_refl _) h0
  exact ⟨acc, e', mLC_eq hn h1, h2⟩
theorem forM_all' {t : Tg} {b : M Fl} (all : List PyData) (I : List PyData → Sl → Prop)
    (st : ∀ pre d rest e, all = pre ++ d :: rest → I pre e → ∃ e1 e2, t.set d e = some e1 ∧ b e1 = .ok .nx e2 ∧ I (pre ++ [d]) e2) : ∀ (rest pre : List PyData) (e : Sl), all = pre ++ rest → I pre e → ∃ e', forM t b rest e = .ok .nx e' ∧ I all e'
  | [], pre, e, ha, h => ⟨e, rfl, by rw [ha]; simpa using h⟩
  | d :: ds, pre, e, ha, h => by
    obtain ⟨e1, e2, h1, h2, h3⟩ := st pre d ds e ha h
    rw [forM_nx h1 h2]
    exact forM_all' all I st ds (pre ++ [d]) e2 (by rw [ha]; simp) h3
theorem forM_all {t : Tg} {b : M Fl} (all : List PyData) (e : Sl) (I : List PyData → Sl → Prop) (h0 : I [] e)
    (st : ∀ pre d rest e, all = pre ++ d :: rest → I pre e → ∃ e1 e2, t.set d e = some e1 ∧ b e1 = .ok .nx e2 ∧ I (pre ++ [d]) e2) : ∃ e', forM t b all e = .ok .nx e' ∧ I all e' :=
  forM_all' all I st all [] e rfl h0
theorem atI_0 {α : Type} (a : α) (r : List α) : L2.atI (a :: r) 0 = some a := by
  have h : (0 : Int) < ((a :: r).length : Nat) := by simp only [List.length_cons]; omega
  simp only [L2.atI, L2.ixN, if_pos h, show (0 : Int) ≤ 0 from by omega, if_pos]; rfl
theorem atI_1 {α : Type} (a b : α) (r : List α) : L2.atI (a :: b :: r) 1 = some b := by
  have h : (1 : Int) < ((a :: b :: r).length : Nat) := by simp only [List.length_cons]; omega
  simp only [L2.atI, L2.ixN, if_pos h, show (0 : Int) ≤ 1 from by omega, if_pos]; rfl
theorem atI_2 {α : Type} (a b c : α) (r : List α) : L2.atI (a :: b :: c :: r) 2 = some c := by
  have h : (2 : Int) < ((a :: b :: c :: r).length : Nat) := by simp only [List.length_cons]; omega
  simp only [L2.atI, L2.ixN, if_pos h, show (0 : Int) ≤ 2 from by omega, if_pos]; rfl
theorem atI_3 {α : Type} (a b c d : α) (r : List α) : L2.atI (a :: b :: c :: d :: r) 3 = some d := by
  have h : (3 : Int) < ((a :: b :: c :: d :: r).length : Nat) := by simp only [List.length_cons]; omega
  simp only [L2.atI, L2.ixN, if_pos h, show (0 : Int) ≤ 3 from by omega, if_pos]; rfl
theorem atI_4 {α : Type} (a b c d e : α) (r : List α) : L2.atI (a :: b :: c :: d :: e :: r) 4 = some e := by
  have h : (4 : Int) < ((a :: b :: c :: d :: e :: r).length : Nat) := by simp only [List.length_cons]; omega
  simp only [L2.atI, L2.ixN, if_pos h, show (0 : Int) ≤ 4 from by omega, if_pos]; rfl
theorem atI_5 {α : Type} (a b c d e f : α) (r : List α) : L2.atI (a :: b :: c :: d :: e :: f :: r) 5 = some f := by
  have h : (5 : Int) < ((a :: b :: c :: d :: e :: f :: r).length : Nat) := by simp only [List.length_cons]; omega
  simp only [L2.atI, L2.ixN, if_pos h, show (0 : Int) ≤ 5 from by omega, if_pos]; rfl
end DL
/-! DLE: len(set(xs)) of texts, any number; sorted and min of data; methods of texts -/
namespace DL
open PySem L2 PyProof.Rows
/-! ### how many unlike texts -/
def ndA : List Str → List Str → Nat
  | _, [] => 0
  | acc, x :: r => (if acc.any (· == x) then 0 else 1) + ndA (acc ++ [x]) r
def nD (xs : List Str) : Nat := ndA [] xs
theorem ndA_append : ∀ (a acc b : List Str), ndA acc (a ++ b) = ndA acc a + ndA (acc ++ a) b
  | [], acc, b => by simp [ndA]
  | x :: a, acc, b => by
    have := ndA_append a (acc ++ [x]) b
    simp only [List.cons_append, ndA, this, List.append_assoc, List.nil_append]
    omega
theorem nD_snoc (xs : List Str) (x : Str) : nD (xs ++ [x]) = nD xs + (if xs.any (· == x) then 0 else 1) := by
  unfold nD; rw [ndA_append]; simp [ndA]
theorem ndA_le : ∀ (xs acc : List Str), ndA acc xs ≤ xs.length
  | [], _ => Nat.le_refl _
  | x :: r, acc => by
    have := ndA_le r (acc ++ [x])
    simp only [ndA, List.length_cons]; split <;> omega
theorem nD_le (xs : List Str) : nD xs ≤ xs.length := ndA_le xs []
section
variable {prog : Program} {w : World} {A : Around} {R : Result → Shared → Prop} {I : Addr} {fp wr : List Addr} {G : Array GenState → Array GenState → Prop} {n : Nat} {P : Nat → Value → Prop} {St : Nat → Shared → Prop}
theorem set_fill (W : WalksS prog w A.in1 I fp wr G n P St) (S : Addr) (hSf : S ∉ fp) (xs : List Str) (hsz : xs.length = n) (hb : n + 1 < scanBound)
    (hval : ∀ i v, P i v → ∃ t, v = .str (xs.getD i Str.empty) t) :
    ∀ (k i : Nat) (s : Shared), n - i = k → i ≤ n → St i s → s.heap.SetOf (PySem.strKind prog w) S (fun q => (xs.take i).any (· == q)) (nD (xs.take i)) →
      (∀ s', Moved (S :: wr) G s s' → s'.heap.SetOf (PySem.strKind prog w) S (fun q => xs.any (· == q)) (nD xs) → R (.ok (.ret .none)) s') →
      codeAny (model prog w) A (.builtin "set.update.loop" ⟨[.ref S, .ref I], []⟩) R s := by
  have hSw : S ∉ wr := fun h => hSf (W.sub _ h)
  have up : ∀ b ∈ wr, b ∈ S :: wr := fun b hb => List.mem_cons_of_mem _ hb
  intro k
  induction k with
  | zero =>
    intro i s hk hi hst hS hR
    obtain rfl : i = n := by omega
    refine codeAny_builtin PyProof.Rows.F.entry_set_update_loop ?_
    rw [Around.under_plainId PyProof.Rows.F.plain_set_update_loop _]
    show wpAny _ A.in1 (pyNext (.ref I) >>= _) _ _ s
    refine wpAny_bind (W.done s _ _ hst fun s' hm => ?_)
    show wpAny _ A.in1 (ret Value.none) _ _ s'
    refine wpAny_pure (hR s' (hm.mono up) ?_)
    rw [← hsz, List.take_length] at hS
    obtain ⟨o, es, ep, t, ho, rest⟩ := hS
    exact ⟨o, es, ep, t, hm.heap S _ hSw ho, rest⟩
  | succ k ih =>
    intro i s hk hi hst hS hR
    have hlt : i < n := by omega
    refine codeAny_builtin PyProof.Rows.F.entry_set_update_loop ?_
    rw [Around.under_plainId PyProof.Rows.F.plain_set_update_loop _]
    show wpAny _ A.in1 (pyNext (.ref I) >>= _) _ _ s
    refine wpAny_bind (W.item i s _ _ hlt hst fun v s' hP hst' hm => ?_)
    obtain ⟨t, rfl⟩ := hval i v hP
    have hS' : s'.heap.SetOf (PySem.strKind prog w) S (fun q => (xs.take i).any (· == q)) (nD (xs.take i)) := by
      obtain ⟨o, es, ep, tb, ho, rest⟩ := hS
      exact ⟨o, es, ep, tb, hm.heap S _ hSw ho, rest⟩
    have hx : xs.take (i + 1) = xs.take i ++ [xs.getD i Str.empty] := by
      rw [List.take_succ, List.getD_eq_getElem?_getD, List.getElem?_eq_getElem (by omega)]; rfl
    show wpAny _ A.in1 (holding [Value.str (xs.getD i Str.empty) t] (setAdd S (.str (xs.getD i Str.empty) t)) >>= _) _ _ s'
    refine wpAny_bind (wpAny_holding ?_)
    unfold setAdd
    refine wpAny_holding ?_
    refine wpAny_bind ((PySem.strKind prog w).pyHash (k := xs.getD i Str.empty) (strKind_is _ _ _ _) ?_)
    have hr : nD (xs.take i) + 1 < scanBound := by
      have := nD_le (xs.take i)
      rw [List.length_take] at this
      omega
    refine wpAny_setAddHashed_of (knd := PySem.strKind prog w) (s := { s' with toks := s'.toks + 1 }) (strKind_is _ _ _ _) rfl hS' hr fun h' hsb hS2 => ?_
    have hSi : h'.SetOf (PySem.strKind prog w) S (fun q => (xs.take (i + 1)).any (· == q)) (nD (xs.take (i + 1))) := by
      refine SetOf_congr hS2 (fun q => ?_) ?_
      · rw [hx, List.any_append]
        congr 1
        by_cases e : q = xs.getD i Str.empty
        · subst e; simp
        · rw [decide_eq_false e]
          simp only [List.any_cons, List.any_nil, Bool.or_false]
          exact (beq_eq_false_iff_ne.mpr fun z => e z.symm).symm
      · rw [hx, nD_snoc]
        split <;> omega
    refine wpAny_pure ⟨plainId_quiet PyProof.Rows.F.plain_set_update_loop _, ih (i + 1) _ (by omega) hlt (W.frame _ s' _ _ hst' (Nat.le_succ _) fun b hb o e => ?_) hSi fun s'' hm'' hS'' => ?_⟩
    · rw [hsb.2 b (fun h : b = S => hSf (by rw [← h]; exact hb))]; exact e
    · refine hR s'' (Moved.trans W.gtrans ((hm.mono up).then_heap (Nat.le_succ _) fun b o hb e => ?_) hm'') hS''
      rw [hsb.2 b (fun h : b = S => hb (by rw [h]; exact List.mem_cons_self))]; exact e
end
section
variable {prog : Program} {w : World} {A : Around} {E : Value → Shared → Prop} {s : Shared}
theorem set_of_list {l : Addr} {items : Array Value} {xs : List Str} {Q : Value → Shared → Prop} (hh : A.handled = none) (hl : s.heap.IsList l items) (hi : PyProof.Rows.StrsAre items.toList xs) (hb : xs.length + 1 < scanBound)
    (h : ∀ (h' : Heap) (tk : Nat), h'.SetOf (PySem.strKind prog w) s.heap.objs.size (fun q => xs.any (· == q)) (nD xs) → (∀ b o, b < s.heap.objs.size → s.heap.get? b = some o → h'.get? b = some o) → Q (.ref s.heap.objs.size) { s with heap := h', toks := tk }) :
    wpAny (model prog w) A (call (.type "set") [.ref l]) Q E s := by
  obtain ⟨c, tl, hmro⟩ := PySem.F.called_set.mro
  have hmade := PySem.F.called_set.made
  have hsub := PySem.F.called_set.sub
  have h1 := PySem.F.called_set.notType
  have h2 := PySem.F.called_set.canCreate
  have hct := PySem.F.typeCall_set_1 (.ref l)
  refine wpAny_call (codeAny_of_tree ?_)
  show wpAny _ _ (callAny (.type "set") _) _ _ _
  refine wpAny_pure ⟨Code.quiet_builtin _ (by decide +kernel), codeAny_builtin PySem.F.entry_type_call ?_⟩
  rw [Around.under_plain (weight_type_call_type "set" [.ref l] []) rfl]
  repeat (any_goals (first | assumption | wp_step))
  refine codeAny_mono (code_set_new_1 (.ref l) (E := E) (Q₁ := fun obj s₁ => ∃ led : Bool, obj = .ref s.heap.objs.size ∧ s₁ = { s with heap := s.heap.push { cls := .type "set", dict := none, data := .set #[] 0 (.fresh 0 0 led) } }) fun led => ⟨led, rfl, rfl⟩) fun r s₁ hr => ?_
  match r, hr with
  | .error e, hr => exact hr
  | .ok (.ret obj), hr =>
    obtain ⟨led, rfl, rfl⟩ := hr
    have hS : (s.heap.push { cls := .type "set", dict := none, data := .set #[] 0 (.fresh 0 0 led) }).get? s.heap.objs.size = some { cls := .type "set", dict := none, data := .set #[] 0 (.fresh 0 0 led) } := Heap.get?_push_size _ rfl
    have hT : Shared.TypeIs { s with heap := s.heap.push { cls := .type "set", dict := none, data := .set #[] 0 (.fresh 0 0 led) } } (.ref s.heap.objs.size) "set" := ⟨_, hS, rfl⟩
    have hli := PySem.F.called_set.init.lookup
    have hbi := PySem.F.called_set.init.bind (.ref s.heap.objs.size)
    repeat (any_goals (first | assumption | wp_step))
    refine codeAny_mono (codeAny_call_builtin (R := wants (fun r s₂ => r = .none ∧ ∃ h' tk, s₂ = { s with heap := h', toks := tk } ∧ h'.SetOf (PySem.strKind prog w) s.heap.objs.size (fun q => xs.any (· == q)) (nD xs) ∧
      (∀ b o, b < s.heap.objs.size → s.heap.get? b = some o → h'.get? b = some o)) E) PySem.F.called_set.init.plain PySem.F.entry_set_init (check_set_init_1 hT ?_)) fun r₂ s₂ hr₂ => ?_
    · obtain ⟨⟨ocls, odict, odata, oslots⟩, hol, hcl, nl, hdl⟩ := hl
      simp only at hcl hdl
      subst hcl; subst hdl
      have hol' : (s.heap.push { cls := .type "set", dict := none, data := .set #[] 0 (.fresh 0 0 led) }).get? l = some { cls := .type "list", dict := odict, data := .seq items nl, slots := oslots } := Heap.get?_push_of_some _ hol
      have hsls := PySem.F.sub_list_set
      have hslf := PySem.F.sub_list_frozenset
      have hne : (Value.type "list" == Value.type "dict") = false := by decide
      have hl1 : (s.heap.push { cls := .type "set", dict := none, data := .set #[] 0 (.fresh 0 0 led) }).IsList l items := ⟨_, hol', rfl, nl, rfl⟩
      unfold Builtin.«set.__init__» noKeywords Builtin.Frozenset.updateFrom
      generalize hPI : pyIter = PI
      wp_walk
      subst hPI
      refine wpAny_pyIter_list hl1 ?_
      refine wpAny_bind (wpAny_runValue ?_)
      have hlS : l < s.heap.objs.size := Heap.lt_size hol
      have hh3 : A.in1.in1.in1.handled = none := by simp [hh]
      have hneI : l ≠ (s.heap.push { cls := .type "set", dict := none, data := .set #[] 0 (.fresh 0 0 led) }).objs.size := by
        rw [Heap.size_push]; exact Nat.ne_of_lt (Nat.lt_succ_of_lt hlS)
      have hSf : s.heap.objs.size ∉ [(s.heap.push { cls := .type "set", dict := none, data := .set #[] 0 (.fresh 0 0 led) }).objs.size, l] := by
        rw [Heap.size_push]; simp only [List.mem_cons, List.not_mem_nil, or_false, not_or]
        exact ⟨Nat.ne_of_lt (Nat.lt_succ_self _), Nat.ne_of_gt hlS⟩
      have hsz : xs.length = items.size := by rw [← StrsAre.len_eq hi, Array.length_toList]
      have hval : ∀ (i : Nat) (v : Value), items[i]? = some v → ∃ t, v = .str (xs.getD i Str.empty) t := fun i v hv => SS.strs_at hi i v (by rw [Array.getElem?_toList]; exact hv)
      refine set_fill ((Walks.list hh3 _ l hneI items).toS) s.heap.objs.size hSf xs hsz (by rw [← hsz]; exact hb) hval (items.size - 0) 0 _ (by omega) (Nat.zero_le _) ⟨⟨_, Heap.get?_push_size _ rfl, rfl, rfl⟩, (hl1.push _)⟩ ?s0 ?sR
      case s0 =>
        exact PyProof.Rows.SetOf_congr ((PyProof.Rows.setObjOf_fresh (knd := PySem.strKind prog w) led).setOf (Heap.get?_push_of_some _ hS) (by unfold scanBound; omega)) (fun _ => rfl) rfl
      case sR =>
        intro s' hm hS'
        obtain ⟨h', g', d', tk', os'⟩ := s'
        have eg : g' = s.gens := hm.gens
        have ed : d' = s.drawn := hm.drawn
        have eo : os' = s.os := hm.os
        subst eg; subst ed; subst eo
        show wpAny _ _ _ _ _ _
        refine wpAny_pure ?_
        show wpAny _ _ (ret Value.none) _ _ _
        refine wpAny_pure ⟨rfl, h', tk', rfl, hS', fun b o hb e => ?_⟩
        refine hm.heap b o ?_ (Heap.get?_push_of_some _ (Heap.get?_push_of_some _ e))
        rw [Heap.size_push]; simp only [List.mem_cons, List.not_mem_nil, or_false, not_or]
        exact ⟨Nat.ne_of_lt hb, Nat.ne_of_lt (Nat.lt_succ_of_lt hb)⟩
    · match r₂, hr₂ with
      | .error e, hr₂ => exact hr₂
      | .ok (.ret r), hr₂ =>
        obtain ⟨rfl, h', tk, rfl, hS', hk'⟩ := hr₂
        repeat (any_goals (first | assumption | wp_step))
        exact h _ _ hS' hk'
end
end DL
namespace DL
open PySem L2 PyProof.Rows
/-! ### len(set(xs)) -/
def strsOf : List PyData → Option (List Str)
  | [] => some []
  | .str x :: r => (strsOf r).map (x :: ·)
  | _ => none
theorem RpAll.strs {K : PySem.W.Frag} {S : Hp} : ∀ {vs : List V} {ds : List PyData} {xs : List Str}, RpAll K S vs ds → strsOf ds = some xs → vs = xs.map V.str
  | _, _, _, .nil, h => by cases h; rfl
  | _, _, _, .cons h r, q => by
    cases h with
    | str x _ =>
      obtain ⟨ys, h1, rfl⟩ := Option.map_eq_some_iff.mp (show (strsOf _).map _ = _ from q)
      rw [RpAll.strs r h1]; rfl
    | _ => simp [strsOf] at q
def gLenSet : PyData → Option PyData
  | .list ds => match strsOf ds with
    | some xs => if xs.length ≤ 1000 then some (.int (nD xs)) else none
    | none => none
  | _ => none
def tLenS (K : PySem.W.Frag) (ta : TE) : TE := fun σ H Q => ta σ H fun x H1 => ∃ l, ∃ xs : List Str, x = .ref l ∧ SqL K H1 l (xs.map V.str) ∧ xs.length ≤ 1000 ∧ Q (.int (nD xs)) H1
section
variable {X : Cx} {W : WX}
theorem pe_lenS {a : Expr} {ta : TE} {p p2 q pos : Pos} (hc : X.calm = true) (hg : Gl X "len") (hm : X.mg "len" = none) (hg2 : Gl X "set") (hm2 : X.mg "set" = none) (ha : PE X a ta)
    (na : starEach [a] X.env = (false, eval a X.env) :: starEach [] X.env := by rfl) : PE X (.Call (.Name "len" p) [.Call (.Name "set" p2) [a] [] q] [] pos) (tLenS X.K ta) := by
  refine ⟨fun pins s σ H Q I h => ?_⟩
  refine Call_ (ld_blt I hg hm boot_len ?_)
  refine PyProof.Rows.callWith_builtin1 (PyProof.Rows.args_cons ?_ rfl) rfl rfl
  refine Call_ (ld_blt I hg2 hm2 boot_set ?_)
  refine PyProof.Rows.callWith_type1 (PyProof.Rows.args_cons (thn (ha.run pins s σ H _ I h) fun v s1 ⟨x, H1, I1, r1, q1⟩ => PyProof.Rows.args_nil ?_) na) na rfl
  obtain ⟨l, xs, rfl, hq, h1, q1⟩ := q1
  cases r1
  obtain ⟨its, r, pl, hz⟩ := I1.list hq
  have hsb : xs.length + 1 < scanBound := Nat.lt_of_le_of_lt (Nat.succ_le_succ h1) (by decide)
  refine set_of_list (I1.ok.hd hc) pl.isList (by simpa using strsAre_of r) hsb fun h' tk hS hk => PyProof.Rows.args_nil ?_
  obtain ⟨o, es, ep, t, ho, hex, hd, _, _, _, hf, hn⟩ := hS
  have I2 : Inv X pins σ H1 { s1 with heap := h', toks := tk } := I1.kept fun b o e => hk b o (Heap.lt_size e) e
  have hle := nD_le xs
  exact call_len_set ho hex hd hf (by rw [hn]; omega) ⟨.int (nD xs), H1, I2.tok _, ⟨_, by rw [hn]⟩, q1⟩
theorem de_lenSet {a : Expr} {f : M PyData} {p p2 q pos : Pos} (hc : X.calm = true) (hm : X.mg "len" = none) (hm2 : X.mg "set" = none) (ha : DE X W a f) (hg : Gl X "len" := by rfl) (hg2 : Gl X "set" := by rfl)
    (na : starEach [a] X.env = (false, eval a X.env) :: starEach [] X.env := by rfl) : DE X W (.Call (.Name "len" p) [.Call (.Name "set" p2) [a] [] q] [] pos) (f >>= fun d => M.lift (gLenSet d)) := by
  refine PE_mono (pe_lenS hc hg hm hg2 hm2 ha na) fun σ H Q ⟨F, P, S, env, rel, post⟩ => ?_
  refine ⟨F, P, S, env, rel, Post.step post fun d e p v S1 H1 rel1 ex1 rp1 => ?_⟩
  obtain ⟨dz, ez, qz⟩ := p.lift
  unfold gLenSet at ez
  split at ez
  · split at ez
    · split at ez
      · cases ez
        rename_i ds _ xs hx hl
        obtain ⟨a, vs, rfl, g1, r1⟩ := rp1.lst_inv
        rw [r1.strs hx] at g1
        exact ⟨a, xs, rfl, rel1.sh.l (SqL.of g1), hl, qz _ _ _ rel1 ex1 (.int _)⟩
      · cases ez
    · cases ez
  · cases ez
end
end DL
namespace DL
open PySem L2 PyProof.Rows
/-! ### sorted(xs) -/
def tup1 : PyData → Bool
  | .tuple (_ :: _) => true
  | _ => false
def noTup : PyData → Bool
  | .none => false
  | .tuple _ => false
  | _ => true
def likeAll (ds : List PyData) : Bool := ds.all fun d => ds.all fun d' => W.alike d d'
def sortOk (ds : List PyData) : Bool := likeAll ds && (ds.all tup1 || ds.all noTup) && noDicts ds && (ds.all fun d => decide (d.depth ≤ 60)) && decide (ds.length ≤ sizeLine)
def dSort (ds : List PyData) : List PyData := ds.mergeSort (W.dataLe false id)
def gSorted : List PyData → Option PyData
  | [.list ds] => if sortOk ds = true then some (.list (dSort ds)) else none
  | _ => none
def IsD (K : PySem.W.Frag) (S : Hp) : Value → PyData → Prop := fun u d => ∃ v, RelV v u ∧ Rp K S v d
theorem each_isD {K : PySem.W.Frag} {S : Hp} : ∀ {vs : List V} {us : List Value} {ds : List PyData}, Vals vs us → RpAll K S vs ds → W.EachIs (IsD K S) us ds
  | _, _, _, .nil, .nil => .nil
  | _, _, _, .cons r rs, .cons h hs => .cons ⟨_, r, h⟩ (each_isD rs hs)
theorem isD_each {K : PySem.W.Frag} {S : Hp} : ∀ {us : List Value} {ds : List PyData}, W.EachIs (IsD K S) us ds → ∃ vs, Vals vs us ∧ RpAll K S vs ds
  | _, _, .nil => ⟨[], .nil, .nil⟩
  | _, _, .cons ⟨v, r, h⟩ t => by
    obtain ⟨vs, h1, h2⟩ := isD_each t
    exact ⟨v :: vs, .cons r h1, .cons h h2⟩
theorem each_reads {h : Heap} : ∀ {us : List Value} {ds : List PyData} {as : List Addr}, ReadsAll h us ds as → W.EachIs (fun v b => ∃ as, Reads h v (id b) as) us ds
  | _, _, _, .nil => .nil
  | _, _, _, .cons h t => .cons ⟨_, h⟩ (each_reads t)
def rSortD (K : PySem.W.Frag) : List V → Hp → VK → Prop := fun vs H Q => ∃ (a : Addr) (xs : List V) (ds : List PyData) (S : Hp), vs = [V.ref a] ∧ Ex S H ∧ SqL K H a xs ∧ RpAll K S xs ds ∧ sortOk ds = true ∧
  ∀ ys p, RpAll K S ys (dSort ds) → H p = none → Q (.ref p) (upd H p (.lst ys))
theorem sortable_of {ds : List PyData} (h : (ds.all tup1 || ds.all noTup) = true) : W.Sortable ds := by
  rcases Bool.or_eq_true _ _ ▸ h with h | h
  · refine .inl fun d hd => ?_
    have := List.all_eq_true.mp h d hd
    unfold tup1 at this
    split at this
    · exact ⟨_, _, rfl⟩
    · cases this
  · refine .inr fun d hd => ?_
    have := List.all_eq_true.mp h d hd
    unfold noTup at this
    split at this
    · cases this
    · cases this
    · rename_i h1 h2
      exact ⟨fun z => h1 z, fun xs z => h2 xs z⟩
theorem noDicts_mem {ds : List PyData} (h : noDicts ds = true) {d : PyData} (hd : d ∈ ds) : noDict d = true := by
  induction ds with
  | nil => cases hd
  | cons x xs ih =>
    simp only [noDicts, Bool.and_eq_true] at h
    rcases List.mem_cons.mp hd with rfl | hd
    · exact h.1
    · exact ih h.2 hd
section
variable {X : Cx} {W : WX}
theorem cr_sortD (hu : X.A.units + 64 < cLine) : CallR X (.builtin "sorted") (rSortD X.K) := by
  intro pins s σ H vs us Q I r h
  obtain ⟨a, xs, ds, S, rfl, ex, hs, rx, ok, q⟩ := h
  obtain ⟨its, rv, hl, hz⟩ := I.list hs
  rw [Vals.ref1 r]
  simp only [sortOk, Bool.and_eq_true, likeAll, decide_eq_true_eq] at ok
  obtain ⟨⟨⟨⟨o1, o2⟩, o3⟩, o4⟩, o5⟩ := ok
  obtain ⟨as, hr⟩ := Dp.readsAll I ds xs its (DpAll.mono' ex (RpAll.dp rx o3).1) rv
  refine PySem.W.sorted_data (enc := id) (R := IsD X.K S) hl.isList (each_isD rv rx) (each_reads hr) ?_ ?_ o5 (fun d hd => ?_) fun out ho hout => ?_
  · rw [List.map_id]
    intro d hd d' hd'
    exact List.all_eq_true.mp (List.all_eq_true.mp o1 d hd) d' hd'
  · rw [List.map_id]; exact sortable_of (by simpa using o2)
  · have := List.all_eq_true.mp o4 d hd
    rw [decide_eq_true_eq] at this
    show X.A.units + 2 + d.depth < cLine
    omega
  · obtain ⟨ys, h1, h2⟩ := isD_each hout
    obtain ⟨ep, he'⟩ := PyProof.Rows.sortedAll_at s.heap its out.toArray
    have hlen : ys.length ≤ sizeLine := by rw [h1.length, ho]; exact o5
    exact ⟨.ref _, upd H (s.heap.objs.size + 1) (.lst ys), I.laid (t' := s.toks) (fun _ _ => PyProof.Rows.sortedAll_old) (Nat.le_succ _) ⟨hlen, out, ep, h1, by simpa using he'⟩, rfl, q ys _ h2 (I.hok.fresh (Nat.le_succ _))⟩
theorem c_sorted (hu : X.A.units + 64 < cLine) : CallD X (.builtin "sorted") gSorted := by
  refine ⟨_, cr_sortD hu, fun S H xs ds dz Q e rx eq p => ?_⟩
  unfold gSorted at eq
  split at eq
  · split at eq
    · rename_i ds ok
      cases eq
      obtain ⟨v, rfl, r⟩ := rx.one_inv
      obtain ⟨a, vs, rfl, g1, r1⟩ := r.lst_inv
      refine ⟨a, vs, ds, S, rfl, e, e.l (SqL.of g1), r1, ok, fun ys p' h1 h2 => ?_⟩
      exact p _ _ _ (Grow.new e h2) (.lst upd_same (h1.mono (Ex.new (e.back h2))))
    · cases eq
  · cases eq
/-! ### min(xs) -/
def notNone : PyData → Bool
  | .none => false
  | _ => true
def minOk (ds : List PyData) : Bool := likeAll ds && ds.all notNone && noDicts ds && decide (PyData.depthAll ds ≤ 60)
def gMin : List PyData → Option PyData
  | [.list (d :: ds)] => if minOk (d :: ds) = true then some (PySem.W.minD d ds) else none
  | _ => none
def rMinD (K : PySem.W.Frag) : List V → Hp → VK → Prop := fun vs H Q => ∃ (a : Addr) (xs : List V) (d : PyData) (ds : List PyData) (S : Hp), vs = [V.ref a] ∧ Ex S H ∧ SqL K H a xs ∧ RpAll K S xs (d :: ds) ∧ minOk (d :: ds) = true ∧
  ∀ v, Rp K S v (PySem.W.minD d ds) → Q v H
theorem minD_mem : ∀ (ds : List PyData) (d : PyData), PySem.W.minD d ds ∈ d :: ds
  | [], d => List.mem_cons_self
  | x :: ds, d => by
    show PySem.W.minD (if PySem.W.dataLt x d = true then x else d) ds ∈ _
    have := minD_mem ds (if PySem.W.dataLt x d = true then x else d)
    rcases List.mem_cons.mp this with h | h
    · rw [h]; split <;> simp
    · exact List.mem_cons_of_mem _ (List.mem_cons_of_mem _ h)
theorem cr_minD (hc : X.calm = true) (hu : X.A.units + 64 < cLine) : CallR X (.builtin "min") (rMinD X.K) := by
  intro pins s σ H vs us Q I r h
  obtain ⟨a, xs, d, ds, S, rfl, ex, hs, rx, ok, q⟩ := h
  obtain ⟨its, rv, hl, hz⟩ := I.list hs
  rw [Vals.ref1 r]
  simp only [minOk, Bool.and_eq_true, likeAll, decide_eq_true_eq] at ok
  obtain ⟨⟨⟨o1, o2⟩, o3⟩, o4⟩ := ok
  have al : ∀ x ∈ d :: ds, ∀ y ∈ d :: ds, PySem.W.alike x y = true := fun x hx y hy => List.all_eq_true.mp (List.all_eq_true.mp o1 x hx) y hy
  obtain ⟨as, hr⟩ := Dp.readsAll I (d :: ds) xs its (DpAll.mono' ex (RpAll.dp rx o3).1) rv
  refine PySem.W.min_list_data (I.ok.hd hc) hl.isList (by simpa using hr) ⟨al, fun x hx z => ?_⟩ (by omega) fun i v h' tk bs hv hR hk => ?_
  · subst z
    have := List.all_eq_true.mp o2 _ hx
    cases this
  · have hv' : its[i]? = some v := by simpa using hv
    obtain ⟨y, hy, ry⟩ : ∃ y, xs[i]? = some y ∧ RelV y v := by
      have hi : i < its.length := (List.getElem?_eq_some_iff.mp hv').1
      have hx : i < xs.length := by rw [rv.length]; exact hi
      obtain ⟨u, h1, h2⟩ := rv.get (List.getElem?_eq_getElem hx)
      rw [hv'] at h1; cases h1
      exact ⟨_, List.getElem?_eq_getElem hx, h2⟩
    obtain ⟨dy, hdy, rdy⟩ := rx.get hy
    obtain ⟨cs, hrd⟩ := Dp.reads I dy y v (Dp.mono' ex (Rp.dp rdy (noDicts_mem o3 (List.mem_of_getElem? hdy))).1) ry
    have := PySem.W.alike_unique _ _ _ _ _ (al _ (List.mem_of_getElem? hdy) _ (minD_mem ds d)) (PyProof.Rows.Reads.keeps hk hrd) hR
    subst this
    exact ⟨y, H, I.kept hk, ry, q y rdy⟩
theorem c_min (hc : X.calm = true) (hu : X.A.units + 64 < cLine) : CallD X (.builtin "min") gMin := by
  refine ⟨_, cr_minD hc hu, fun S H xs ds dz Q e rx eq p => ?_⟩
  unfold gMin at eq
  split at eq
  · split at eq
    · rename_i d ds ok
      cases eq
      obtain ⟨v, rfl, r⟩ := rx.one_inv
      obtain ⟨a, vs, rfl, g1, r1⟩ := r.lst_inv
      exact ⟨a, vs, d, ds, S, rfl, e, e.l (SqL.of g1), r1, ok, fun v hv => p _ _ _ (Grow.refl e) hv⟩
    · cases eq
  · cases eq
end
end DL
/-! DLH: dicts whose keys are tuples -/
namespace DL
open PySem L2 PyProof.Rows
theorem RelE.writeMt {K : PySem.W.Frag} {mg : Str → Option Value} {F S H : Hp} {P : List (Option Addr)} {σ : L2.St} {env : Sl} {i : Nat} {b : Bool} {m m' : Mt} {p : Addr} {o' : HO} (r : RelE K mg F P S H σ env) (e : env[i]? = some (some (.mt b m))) (hs : σ[i]? = some (some (.ref p))) (h : MtOk K S o' m') :
    RelE K mg F P S (upd H p o') σ (env.set i (some (.mt b m'))) := by
  obtain ⟨p', xs, h1, h2, h3, h4, h5, h6⟩ := r.ats i _ e
  rw [hs] at h1; cases h1
  have hl : i < env.length := (List.getElem?_eq_some_iff.mp e).1
  refine ⟨⟨fun a o q => ?_, fun a o q => ?_, r.dj, r.tb.write h2 h5.nt h.nt, r.ns, r.nf⟩, by simp [r.len], fun j s q => ?_, fun j k q bi di bj dj e1 e2 s1 s2 => ?_⟩
  · rw [upd_ne (fun z => by rw [z, h3] at q; cases q)]; exact r.sh a o q
  · rw [upd_ne (fun z => by rw [z, h4] at q; cases q)]; exact r.fh a o q
  · by_cases z : i = j
    · subst z
      rw [List.getElem?_set_self hl] at q; cases q
      exact ⟨p, o', hs, upd_same, h3, h4, h, h6⟩
    · rw [List.getElem?_set_ne z] at q
      have h := r.ats j s q
      cases s with
      | dat d => exact h
      | raw v => exact h
      | fn x => exact h
      | exc a x => exact h
      | frz ds => exact h
      | wk ds => exact h
      | mt b' ds'' =>
        obtain ⟨p', xs'', g1, g2, g3⟩ := h
        refine ⟨p', xs'', g1, ?_, g3⟩
        rw [upd_ne]
        · exact g2
        · intro y
          subst y
          exact z (r.uq i j p' b m b' ds'' e q hs g1)
  · have aux : ∀ {j : Nat} {b' : Bool} {ds'' : Mt}, (env.set i (some (Sv.mt b m')))[j]? = some (some (.mt b' ds'')) → ∃ c e, env[j]? = some (some (.mt c e)) := fun {j b' ds''} e' => by
      by_cases z : i = j
      · subst z; exact ⟨_, _, e⟩
      · rw [List.getElem?_set_ne z] at e'; exact ⟨_, _, e'⟩
    obtain ⟨c1, d1, g1⟩ := aux e1
    obtain ⟨c2, d2, g2⟩ := aux e2
    exact r.uq j k q c1 d1 c2 d2 g1 g2 s1 s2

def keysOf : List PyData → Option (List Key)
  | [] => some []
  | .int i :: r => (keysOf r).map (Sum.inl i :: ·)
  | .str x :: r => (keysOf r).map (Sum.inr x :: ·)
  | _ => none
theorem keysOf_kD : ∀ ks : List Key, keysOf (ks.map kD) = some ks
  | [] => rfl
  | .inl i :: r => by simp [kD, keysOf, keysOf_kD r]
  | .inr x :: r => by simp [kD, keysOf, keysOf_kD r]
theorem keysOf_inv : ∀ {ds : List PyData} {ks : List Key}, keysOf ds = some ks → ds = ks.map kD
  | [], _, h => by cases h; rfl
  | d :: r, ks, h => by
    cases d with
    | int i =>
      obtain ⟨k, h1, rfl⟩ := Option.map_eq_some_iff.mp (show (keysOf r).map _ = _ from h)
      rw [keysOf_inv h1]; rfl
    | str i =>
      obtain ⟨k, h1, rfl⟩ := Option.map_eq_some_iff.mp (show (keysOf r).map _ = _ from h)
      rw [keysOf_inv h1]; rfl
    | _ => simp [keysOf] at h
section
variable {K : PySem.W.Frag} {S : Hp}
theorem RpAll.keys : ∀ {vs : List V} {ds : List PyData} {ks : List Key}, RpAll K S vs ds → keysOf ds = some ks → vs = ks.map kV
  | _, _, _, .nil, h => by cases h; rfl
  | _, _, _, .cons h r, q => by
    cases h with
    | int i =>
      obtain ⟨k, h1, rfl⟩ := Option.map_eq_some_iff.mp (show (keysOf _).map _ = _ from q)
      rw [RpAll.keys r h1]; rfl
    | str x _ =>
      obtain ⟨k, h1, rfl⟩ := Option.map_eq_some_iff.mp (show (keysOf _).map _ = _ from q)
      rw [RpAll.keys r h1]; rfl
    | _ => simp [keysOf] at q
theorem RpAll.keyOk : ∀ {vs : List V} {ds : List PyData} {ks : List Key}, RpAll K S vs ds → keysOf ds = some ks → ∀ x, Sum.inr x ∈ ks → TxOk x
  | _, _, _, .nil, h => by cases h; intro x hx; cases hx
  | _, _, _, .cons h r, q => by
    cases h with
    | int i =>
      obtain ⟨k, h1, rfl⟩ := Option.map_eq_some_iff.mp (show (keysOf _).map _ = _ from q)
      intro x hx
      rcases List.mem_cons.mp hx with z | z
      · cases z
      · exact RpAll.keyOk r h1 x z
    | str y hy =>
      obtain ⟨k, h1, rfl⟩ := Option.map_eq_some_iff.mp (show (keysOf _).map _ = _ from q)
      intro x hx
      rcases List.mem_cons.mp hx with z | z
      · cases z; exact hy
      · exact RpAll.keyOk r h1 x z
    | _ => simp [keysOf] at q
def dGetK (kvs : List (List Key × PyData)) (k : List Key) : Option PyData := (kvs.find? fun kv => decide (kv.1 = k)).map (·.2)
def dPutK (kvs : List (List Key × PyData)) (k : List Key) (d : PyData) : List (List Key × PyData) := if (kvs.any fun kv => decide (kv.1 = k)) = true then kvs.map (fun kv => if kv.1 = k then (kv.1, d) else kv) else kvs ++ [(k, d)]
theorem RpKT.get {ws : List (List Key × V)} {kvs : List (List Key × PyData)} {k : List Key} {d : PyData} (h : RpKT K S ws kvs) (q : dGetK kvs k = some d) : ∃ v, valV ws k = some v ∧ Rp K S v d := by
  induction h with
  | nil => cases q
  | @cons k' v d' ws kvs g r rs ih =>
    unfold dGetK at q
    unfold valV
    by_cases z : k' = k
    · rw [List.find?_cons_of_pos (by simpa using z)] at q ⊢
      cases q
      exact ⟨v, rfl, r⟩
    · rw [List.find?_cons_of_neg (by simpa using z)] at q ⊢
      exact ih q
theorem RpKT.length {ws : List (List Key × V)} {kvs : List (List Key × PyData)} (h : RpKT K S ws kvs) : ws.length = kvs.length := by
  induction h with
  | nil => rfl
  | cons _ _ _ ih => simp [ih]
theorem RpKT.keys {ws : List (List Key × V)} {kvs : List (List Key × PyData)} (h : RpKT K S ws kvs) : ws.map (·.1) = kvs.map (·.1) := by
  induction h with
  | nil => rfl
  | cons _ _ _ ih => simp [ih]
theorem RpKT.put {ws : List (List Key × V)} {kvs : List (List Key × PyData)} {k : List Key} {v : V} {d : PyData} (h : RpKT K S ws kvs) (hk : ∀ x, Sum.inr x ∈ k → TxOk x) (r : Rp K S v d) : RpKT K S (putK ws k v) (dPutK kvs k d) := by
  have e : (ws.any fun kv => decide (kv.1 = k)) = (kvs.any fun kv => decide (kv.1 = k)) := by
    induction h with
    | nil => rfl
    | cons _ _ _ ih => simp [ih]
  unfold putK dPutK
  rw [e]
  split
  · rename_i hq; clear hq e
    induction h with
    | nil => exact .nil
    | @cons k' v' d' ws kvs g r' rs ih =>
      simp only [List.map_cons]
      by_cases z : k' = k
      · simp only [z, if_true]
        exact .cons hk r ih
      · simp only [z, if_false]
        exact .cons g r' ih
  · rename_i hq; clear hq e
    induction h with
    | nil => exact .cons hk r .nil
    | cons g r' rs ih => exact .cons g r' ih
end
/-! ### the rules -/
def M.dget (i : Nat) (k : PyData) : M PyData := fun e => match e[i]?, k with
  | some (some (.mt false (.dT kvs))), .tuple ds => match keysOf ds with
    | some ks => match dGetK kvs ks with
      | some d => .ok d e
      | none => .bad
    | none => .bad
  | _, _ => .bad
def M.dput (i : Nat) (ds : List PyData) (d : PyData) : M Unit := fun e => match e[i]? with
  | some (some (.mt false (.dT kvs))) => match keysOf ds with
    | some ks => if kvs.length < sizeLine ∧ ds.length ≤ sizeLine then .ok () (e.set i (some (.dic (dPutK kvs ks d)))) else .bad
    | none => .bad
  | _ => .bad
def M.ownD (i : Nat) : M Unit := fun e => match e[i]? with
  | some (some (.mt false (.dT _))) => .ok () e
  | _ => .bad
def M.setT (i : Nat) : M Unit := fun e => .ok () (e.set i (some (.dic [])))
section
variable {X : Cx} {W : WX}
/-- x = {} -/
theorem ds_setT {i : Nat} {x : Str} {pos pos' pos2 : Pos} (hN : X.N.Nodup) (hi : X.N[i]? = some x := by rfl) (hx : Loc X.env.scope x := by first | exact Or.inl rfl | exact Or.inr rfl)
    (hs : swapsWith (.Dict [] [] pos2) (some (.Name x pos')) pos.line X.env = pure false := by rfl) (hf : X.fn x = true ∨ X.env.scope.names.lookup x = some .local := by first | exact .inl rfl | exact .inr rfl | assumption) :
    DS X W (.Assign [.Name x pos'] (.Dict [] [] pos2) pos) (M.setT i >>= fun _ => pure .nx) := by
  refine PS_mono (ps_set hN hi hx pe_dnewT hs hf) fun D σ H ⟨F, P, S, env, rel, post⟩ => ?_
  intro p hp
  exact post _ S _ (rel.setMt (m := .dT []) hp .nil) (Ex.refl S)
theorem key_sq {pins : List (Addr × Obj)} {σ : L2.St} {H : Hp} {s : Shared} {b : Addr} {ks : List Key} (I : Inv X pins σ H s) (h : SqT X.K H b (ks.map kV)) : (tupleKind (mixKind X.prog X.w)).is s.heap ks b := by
  obtain ⟨its, r, ⟨o, h1, h2, n, h3⟩, _⟩ := I.tuple h
  exact ⟨o, its.toArray, n, h1, h2, h3, by simpa using items_are r⟩
/-- d[k], k a tuple -/
def tDGetT (K : PySem.W.Frag) (td ty : TE) : TE := fun σ H Q => td σ H fun x H1 => ty σ H1 fun y H2 => ∃ a b ws ks v, x = .ref a ∧ y = .ref b ∧ H2 a = some (.dT ws) ∧ SqT K H2 b (ks.map kV) ∧ valV ws ks = some v ∧ Q v H2
theorem pe_dgetT {o i : Expr} {td ty : TE} {pos : Pos} (hu : X.A.units + 1 < cLine) (ho : PE X o td) (hi : PE X i ty) (hs : NoSl i) : PE X (.Subscript o i pos) (tDGetT X.K td ty) := by
  refine ⟨fun pins s σ H Q I h => ?_⟩
  refine subD_of PySem.F.slot_dict_getitem.lookup hs (thn (ho.run pins s σ H _ I h) fun u s1 ⟨x, H1, I1, rx, q1⟩ => thn (hi.run pins s1 σ H1 _ I1 q1) fun iv s2 ⟨y, H2, I2, ry, a, b, ws, ks, v, ex, ey, ha, hb, hv, q2⟩ => ?_)
  subst ex; subst ey
  obtain rfl : u = Value.ref a := rx
  obtain rfl : iv = Value.ref b := ry
  obtain ⟨z, hd, xs, rel, dd⟩ := dt_of I2.hok ha
  obtain ⟨w', hw, rw'⟩ := RelO.some_of (v := v) (o := (atKey xs ks).map (·.2)) (by rw [← hv]; exact rel.val ks)
  obtain ⟨p, hp, hp2⟩ := Option.map_eq_some_iff.mp hw
  refine ⟨?_, wpAny_getItem_heap (tupleKind_room_in1 hu) (key_sq I2 hb) dd hp ?_⟩
  · obtain ⟨o, es, ep, h1, h2, _⟩ := dd
    exact ⟨o, h1, h2.1⟩
  · rw [hp2]
    exact ⟨v, H2, I2.tok _, rw', q2⟩
theorem Post.ownD {i : Nat} {env : Sl} {β : Type} {k : Unit → M β} {R : β → Sl → Prop} {F S F' S' H : Hp} {P P' : List (Option Addr)} {σ σ' : L2.St} (rel : RelE X.K X.mg F' P' S' H σ' env) (h : Post X W F P S σ ((M.ownD i env).then k) R) :
    ∃ p ws, σ'[i]? = some (some (.ref p)) ∧ H p = some (.dT ws) ∧ Post X W F P S σ (k () env) R := by
  unfold M.ownD at h
  split at h
  · rename_i kvs he
    obtain ⟨p, ws, g1, g2, _⟩ := rel.dic he
    exact ⟨p, ws, g1, g2, h⟩
  · exact h.elim
theorem PostS.ownD {i : Nat} {env : Sl} {β : Type} {k : Unit → M β} {R : β → Sl → Prop} {F S F' S' H : Hp} {P P' : List (Option Addr)} {σ' : L2.St} (rel : RelE X.K X.mg F' P' S' H σ' env) (h : PostS X W F P S ((M.ownD i env).then k) R) :
    ∃ p ws, σ'[i]? = some (some (.ref p)) ∧ H p = some (.dT ws) ∧ PostS X W F P S (k () env) R := by
  unfold M.ownD at h
  split at h
  · rename_i kvs he
    obtain ⟨p, ws, g1, g2, _⟩ := rel.dic he
    exact ⟨p, ws, g1, g2, h⟩
  · exact h.elim
/-! ### a tuple of whose object nothing is known -/
def tDw (X : Cx) (W : WX) (f : M PyData) : TE := fun σ H Q => ∃ F P S env, RelE X.K X.mg F P S H σ env ∧
  Post X W F P S σ (f env) fun d e => ∀ v S' H', RelE X.K X.mg F P S' H' σ e → Ex S S' → RpW X.K S' v d → Q v H'
def DEw (X : Cx) (W : WX) (e : Expr) (f : M PyData) : Prop := PE X e (tDw X W f)
def M.getW (i : Nat) : M PyData := fun e => match e[i]? with
  | some (some (.wk ds)) => .ok (.tuple ds) e
  | _ => .bad
theorem dew_var (i : Nat) {x : Str} {pos : Pos} (hN : X.N[i]? = some x := by rfl) (hv : Vis X.env.scope x := by first | exact Or.inl rfl | exact Or.inr (Or.inl rfl) | exact Or.inr (Or.inr rfl)) (hd : (x == ("__debug__" : Str)) = false := by decide)
    (hcd : (x == ("__classdict__" : Str)) = false := by decide) : DEw X W (.Name x pos) (M.getW i) := by
  refine PE_mono (pe_var hN hv hd hcd) fun σ H Q ⟨F, P, S, env, rel, post⟩ => ?_
  unfold M.getW at post
  split at post
  · rename_i ds e
    obtain ⟨a, xs, h1, h2, h3⟩ := rel.ats i _ e
    exact ⟨.ref a, h1, post _ S H rel (Ex.refl S) (.inr ⟨a, xs, ds, rfl, rfl, h2, h3⟩)⟩
  · exact post.elim
theorem DE.w {e : Expr} {f : M PyData} (h : DE X W e f) : DEw X W e f :=
  PE_mono h fun σ H Q ⟨F, P, S, env, rel, post⟩ => ⟨F, P, S, env, rel, post.mono (Ex.refl S) fun d e q v S' H' r x rp => q v S' H' r x (.inl rp)⟩
def gAddW : PyData → PyData → Option PyData
  | .tuple a, .tuple b => if b ≠ [] ∧ a.length + b.length ≤ sizeLine then some (.tuple (a ++ b)) else none
  | _, _ => none
theorem de_addW {a b : Expr} {pos : Pos} {fa fb : M PyData} (ha : DEw X W a fa) (hb : DE X W b fb) : DE X W (.BinOp a .Add b pos) (fa >>= fun x => fb >>= fun y => M.lift (gAddW x y)) := by
  refine PE_mono (pe_op op_catF ha hb) fun σ H Q ⟨F, P, S, env, rel, post⟩ => ?_
  refine ⟨F, P, S, env, rel, post.step fun dx e1 p1 v S1 H1 rel1 ex1 rp1 => ?_⟩
  refine ⟨F, P, S1, e1, rel1, (p1.step (R' := fun dy e2 => Post X W F P S σ (M.lift (gAddW dx dy) e2) _) fun dy e2 q => q).mono ex1 fun dy e2 p2 u S2 H2 rel2 ex2 rp2 => ?_⟩
  obtain ⟨dz, e, q⟩ := p2.lift
  unfold gAddW at e
  split at e
  · split at e
    · rename_i xs ys h
      cases e
      obtain ⟨a, vs, rfl, h1, r1⟩ := rp1.tup_inv
      obtain ⟨b, ws, rfl, h2, r2⟩ := rp2.tup_invP
      have q' : Pure X.K S2 H2 (.tuple (xs ++ ys)) Q := fun w S4 H4 gr rw => q w S4 H4 (rel2.grow gr) ((ex1.trans ex2).trans gr.ss) rw
      refine ⟨a, b, vs, ws, rfl, rfl, (ex2.trans rel2.sh).t h1, rel2.sh.t h2.sq, by rw [r1.length, r2.length]; exact h.2, fun z => ?_, fun z z2 => ?_, fun _ _ => q'.tup rel2.sh ((r1.mono ex2).append r2)⟩
      · subst z; cases r1; exact q'.same rel2.sh (.tup h2 r2)
      · subst z2; cases r2; exact absurd rfl h.1
    · cases e
  · cases e
theorem de_dget {i : Nat} {x : Str} {b : Expr} {f : M PyData} {xp pos : Pos} (hu : X.A.units + 64 < cLine) (h : DEw X W b f) (hs : NoSl b := by exact fun _ _ => rfl) (hN : X.N[i]? = some x := by rfl) (hv : Vis X.env.scope x := by first | exact Or.inl rfl | exact Or.inr (Or.inl rfl) | exact Or.inr (Or.inr rfl))
    (hd : (x == ("__debug__" : Str)) = false := by decide) (hcd : (x == ("__classdict__" : Str)) = false := by decide) : DE X W (.Subscript (.Name x xp) b pos) (M.ownD i >>= fun _ => f >>= fun k => M.dget i k) := by
  refine PE_mono (pe_dgetT (by omega) (pe_var hN hv hd hcd) h hs) fun σ H Q ⟨F, P, S, env, rel, post⟩ => ?_
  obtain ⟨p, ws, h1, h2, post⟩ := Post.ownD rel post
  refine ⟨.ref p, h1, F, P, S, env, rel, Post.step post fun k e q v S1 H1 rel1 ex1 rp1 => ?_⟩
  unfold M.dget at q
  split at q
  · rename_i kvs ds he
    split at q
    · rename_i ks hk
      split at q
      · rename_i d hd
        obtain ⟨p', ws', g1, g2, g3, g4, g5⟩ := rel1.dic he
        rw [h1] at g1; cases g1
        obtain ⟨v', h5, h6⟩ := g5.get hd
        obtain ⟨a, xs, rfl, t1, t2⟩ := RpW.tup_inv rp1
        rw [t2.keys hk] at t1
        exact ⟨p, a, ws', ks, v', rfl, rfl, g2, rel1.sh.t t1, h5, q _ _ _ rel1 ex1 h6⟩
      · exact q.elim
    · exact q.elim
  · exact q.elim
end
end DL
/-! DLI: d[a, b] = v; sorted(d) -/
namespace DL
open PySem L2 PyProof.Rows
section
variable {X : Cx} {W : WX}
theorem ds_dput {i : Nat} {x : Str} {es : List Expr} {e : Expr} {f : M PyData} {g : M (List PyData)} {x1} {xp tp tq pos : Pos} (hu : X.A.units + 64 < cLine) (he : DE X W e f) (hb : DA X W es g) (hN : X.N[i]? = some x := by rfl) (hv : Vis X.env.scope x := by first | exact Or.inl rfl | exact Or.inr (Or.inl rfl) | exact Or.inr (Or.inr rfl))
    (hd : (x == ("__debug__" : Str)) = false := by decide) (hcd : (x == ("__classdict__" : Str)) = false := by decide)
    (ha : ∀ v, assign (.Subscript (.Name x xp) (.Tuple es x1 tq) tp) X.env v = (do
      let ov ← holding [v] (eval (.Name x xp) X.env)
      let iv ← holding [v, ov] (eval (.Tuple es x1 tq) X.env)
      standAt tp
      holding [v, ov, iv] (setItem ov iv v)
      release [v, ov, iv] []) := by intro _; rfl)
    (hs : swapsWithSole [.Subscript (.Name x xp) (.Tuple es x1 tq) tp] e pos.line X.env = pure false := by rfl) (hw : swappedStores [.Subscript (.Name x xp) (.Tuple es x1 tq) tp] e X.env = pure none := by rfl)
    (h1 : (assignEach [.Subscript (.Name x xp) (.Tuple es x1 tq) tp] X.env).map (·.2) = [assign (.Subscript (.Name x xp) (.Tuple es x1 tq) tp) X.env] := by rfl) :
    DS X W (.Assign [.Subscript (.Name x xp) (.Tuple es x1 tq) tp] e pos) (f >>= fun d => M.ownD i >>= fun _ => g >>= fun ks => M.dput i ks d >>= fun _ => pure .nx) := by
  refine PS_mono (ps_asg he (pg_sub (pe_var hN hv hd hcd) (pe_tup hb) (set_dict (by omega)) ha) hs hw h1) fun D σ H ⟨F, P, S, env, rel, post⟩ => ?_
  refine ⟨F, P, S, env, rel, PostS.stepE post fun d e q v S1 H1 rel1 ex1 rp1 => ?_⟩
  obtain ⟨p, ws, h1, h2, q⟩ := PostS.ownD rel1 q
  refine ⟨.ref p, h1, F, P, S1, e, rel1, (PostS.stepE (σ := σ) q (R' := fun ks e2 => PostS X W F P S (M.dput i ks d e2) fun _ e3 => FlOk X F P S D e3 .nx) fun k e2 z => PostS.step z fun _ e3 y => y).mono ex1 fun ds e2 z vs S2 H2 rel2 ex2 rp2 => ?_⟩
  unfold M.dput at z
  split at z
  · rename_i kvs he
    split at z
    · rename_i ks hk
      split at z
      · rename_i hl
        refine ⟨by rw [rp2.length]; exact hl.2, fun t ht => ?_⟩
        obtain ⟨p', ws', g1, g2, g3, g4, g5⟩ := rel2.dic he
        rw [h1] at g1; cases g1
        have gr : Grow X.K S2 H2 (upd S2 t (.tup vs)) (upd H2 t (.tup vs)) := Grow.new rel2.sh ht
        have rel3 := rel2.grow gr
        have hpt : p ≠ t := fun y => by rw [y, ht] at g2; cases g2
        have e1 : (upd H2 t (.tup vs)) p = some (.dT ws') := by rw [upd_ne hpt]; exact g2
        have e2 : (upd H2 t (.tup vs)) t = some (.tup (ks.map kV)) := by rw [upd_same, rp2.keys hk]
        refine ⟨p, _, rfl, DPut.t e1 e2 (by rw [g5.length]; exact hl.1), ?_⟩
        exact z σ _ _ (rel3.writeMt (m' := .dT (dPutK kvs ks d)) he h1 ((g5.put (rp2.keyOk hk) (rp1.mono ex2)).mono gr.ss)) ((ex1.trans ex2).trans gr.ss)
      · exact z.elim
    · exact z.elim
  · exact z.elim
/-! ### sorted(d) -/
def keyD (ks : List Key) : PyData := .tuple (ks.map kD)
def IsT (H : Hp) : Value → PyData → Prop := fun u d => ∃ b ks, u = Value.ref b ∧ H b = some (.tup (ks.map kV)) ∧ d = keyD ks
theorem kt_each {H : Hp} {ws : List (List Key × V)} {xs : List (List Key × Addr × Value)} (r : KT H ws xs) : PySem.W.EachIs (IsT H) (xs.map fun x => Value.ref x.2.1) (ws.map fun p => keyD p.1) := by
  induction r with
  | nil => exact .nil
  | cons h t ih => exact .cons ⟨_, _, rfl, h.2.1, rfl⟩ ih
theorem keys_as {h : Heap} : ∀ {l : List Key} {vs : List Value} {as : List Addr}, ReadsAll h vs (l.map kD) as → as = []
  | [], _, _, r => by cases r; rfl
  | .inl i :: l, _, _, r => by
    have r' : ReadsAll h _ (.int i :: l.map kD) _ := r
    cases r' with
    | cons h1 h2 => cases h1; rw [keys_as h2]; rfl
  | .inr i :: l, _, _, r => by
    have r' : ReadsAll h _ (.str i :: l.map kD) _ := r
    cases r' with
    | cons h1 h2 => cases h1; rw [keys_as h2]; rfl
theorem key_as {h : Heap} {l : List Key} {v : Value} {as : List Addr} (r : Reads h v (keyD l) as) : as = [] := by
  cases r with
  | tuple _ _ _ h4 => exact keys_as h4
theorem dp_key {K : PySem.W.Frag} {H : Hp} : ∀ ks : List Key, DpAll K H (ks.map kV) (ks.map kD)
  | [] => .nil
  | .inl i :: r => .cons (.int i) (dp_key r)
  | .inr x :: r => .cons (.str x) (dp_key r)
/-- each is data, or a tuple of whose object nothing is known -/
inductive RwAll (K : PySem.W.Frag) (S : Hp) : List V → List PyData → Prop
  | nil : RwAll K S [] []
  | cons {v : V} {vs : List V} {d : PyData} {ds : List PyData} : RpW K S v d → RwAll K S vs ds → RwAll K S (v :: vs) (d :: ds)
theorem RpW.mono {K : PySem.W.Frag} {S S' : Hp} {v : V} {d : PyData} (h : RpW K S v d) (e : Ex S S') : RpW K S' v d := by
  rcases h with h | ⟨a, xs, ds, h1, h2, h3, h4⟩
  · exact .inl (h.mono e)
  · exact .inr ⟨a, xs, ds, h1, h2, e.t h3, h4.mono e⟩
theorem RwAll.mono {K : PySem.W.Frag} {S S' : Hp} (e : Ex S S') : ∀ {vs : List V} {ds : List PyData}, RwAll K S vs ds → RwAll K S' vs ds
  | _, _, .nil => .nil
  | _, _, .cons h r => .cons (h.mono e) (RwAll.mono e r)
theorem RwAll.length {K : PySem.W.Frag} {S : Hp} : ∀ {vs : List V} {ds : List PyData}, RwAll K S vs ds → vs.length = ds.length
  | _, _, .nil => rfl
  | _, _, .cons _ r => by simp [RwAll.length r]
theorem RwAll.get' {K : PySem.W.Frag} {S : Hp} : ∀ {vs : List V} {ds : List PyData} {i : Nat} {d : PyData}, RwAll K S vs ds → ds[i]? = some d → ∃ v, vs[i]? = some v ∧ RpW K S v d
  | _, _, _, _, .nil, h => by simp at h
  | _, _, 0, _, .cons h r, q => by simp at q; subst q; exact ⟨_, rfl, h⟩
  | _, _, i + 1, _, .cons h r, q => by
    obtain ⟨d, h1, h2⟩ := RwAll.get' (i := i) r (by simpa using q)
    exact ⟨d, by simpa using h1, h2⟩
theorem wk_listW {K : PySem.W.Frag} {S : Hp} {a : Addr} {xs : List V} {ds : List PyData} (h : SqL K S a xs) (r : RwAll K S xs ds) : Wk K (Itl K a) S false ds := by
  refine ⟨fun i H hi e => ?_, fun H e => ?_, fun i H x H' d hd e y Sc ss sh => ?_⟩
  · rw [← r.length] at hi; exact walk_list.goes i H hi (e.l h)
  · rw [← r.length]; exact walk_list.stops H (e.l h)
  · obtain ⟨v, h1, h2⟩ := r.get' hd
    obtain ⟨rfl, h3⟩ := walk_list.yields i H x H' (List.getElem?_eq_some_iff.mp h1).1 (e.l h) y
    rw [h1] at h3; cases h3
    exact ⟨Sc, Grow.refl sh, h2.mono ss⟩
theorem adopt_all {K : PySem.W.Frag} {H : Hp} : ∀ {out : List Value} {ds : List PyData} {S : Hp}, PySem.W.EachIs (IsT H) out ds → (∀ ks, keyD ks ∈ ds → ∀ x, Sum.inr x ∈ ks → TxOk x) → Ex S H → ∃ S' ys, Grow K S H S' H ∧ Vals ys out ∧ RwAll K S' ys ds
  | _, _, S, .nil, _, e => ⟨S, [], Grow.refl e, .nil, .nil⟩
  | _, _, S, .cons (bs := ds) h t, hk, e => by
    obtain ⟨b, ks, rfl, hb, rfl⟩ := h
    obtain ⟨S1, ys, g, v, r⟩ := adopt_all (K := K) t (fun k m => hk k (List.mem_cons_of_mem _ m)) e
    have g2 := Grow.adopt (K := K) g.sh hb
    have rk : ∀ (l : List Key), (∀ x, Sum.inr x ∈ l → TxOk x) → RpAll K (upd S1 b (.tup (ks.map kV))) (l.map kV) (l.map kD) := by
      intro l
      induction l with
      | nil => intro _; exact .nil
      | cons k l ih =>
        intro hl
        cases k with
        | inl i => exact .cons (.int i) (ih fun x m => hl x (List.mem_cons_of_mem _ m))
        | inr x => exact .cons (.str x (hl x List.mem_cons_self)) (ih fun x m => hl x (List.mem_cons_of_mem _ m))
    exact ⟨_, .ref b :: ys, g.trans g2, .cons rfl v, .cons (.inr ⟨b, _, _, rfl, rfl, Or.inl (Or.inl upd_same), rk ks (hk ks List.mem_cons_self)⟩) (r.mono g2.ss)⟩
theorem isT_vals {H : Hp} : ∀ {out : List Value} {ds : List PyData}, PySem.W.EachIs (IsT H) out ds → ∃ ys, Vals ys out
  | _, _, .nil => ⟨[], .nil⟩
  | _, _, .cons ⟨b, _, e, _⟩ t => by
    obtain ⟨ys, h⟩ := isT_vals t
    subst e
    exact ⟨.ref b :: ys, .cons rfl h⟩
theorem refs_unique {H : Hp} : ∀ {out : List Value} {ds : List PyData} {ys zs : List V}, Vals ys out → Vals zs out → PySem.W.EachIs (IsT H) out ds → ys = zs
  | _, _, _, _, .nil, .nil, _ => rfl
  | _, _, y :: _, z :: _, .cons r1 t1, .cons r2 t2, .cons ⟨b, _, e, _⟩ t => by
    subst e
    rw [refs_unique t1 t2 t]
    have a1 : ∀ v : V, RelV v (Value.ref b) → v = .ref b := by
      intro v hv
      cases v <;> first | (cases hv; rfl) | (obtain ⟨_, z⟩ := hv; cases z) | cases hv
    rw [a1 _ r1, a1 _ r2]
theorem cr_sortT (hc : X.calm = true) (hu : X.A.units + 64 < cLine) : CallR X (.builtin "sorted") (fun xs H Q => ∃ (a : Addr) (ws : List (List Key × V)), xs = [.ref a] ∧ H a = some (.dT ws) ∧ sortOk (ws.map fun p => keyD p.1) = true ∧
    ∀ (ys : List V) (out : List Value) (p : Addr), Vals ys out → PySem.W.EachIs (IsT H) out (dSort (ws.map fun p => keyD p.1)) → H p = none → Q (.ref p) (upd H p (.lst ys))) := by
  intro pins s σ H xs us Q I r q
  obtain ⟨a, ws, rfl, hd, ok, q⟩ := q
  obtain ⟨u, rfl, rx⟩ := r.one
  cases rx
  obtain ⟨z, lo, ks, pr, o, es, ep, ho, hx, hdt, he, hn⟩ := (show ObjOk X.prog X.w H s.heap a (.dT ws) from I.hok a _ hd)
  have l1 : es.size = ks.length := size_of_entries he
  have l2 : ws.length = ks.length := Paired.length pr
  refine Calls.call_function_entry PyProof.Rows.kind_sorted PyProof.Rows.plain_sorted PyProof.Rows.entry_sorted (PyProof.Rows.args_sorted1 _) ?_
  unfold Builtin.«sorted»
  refine wpAny_bind (m := checkCount "sorted" 1 1 _) (wpAny_pure ?_)
  refine wpAny_bind (PySem.W.kdu_collect (A := X.A.in1) (kdl_raw lo hx hdt) (I.ok.hd hc) ho (by omega) fun h' tk acc hk it => ?_)
  have ea : acc.toList = ks.map fun x => Value.ref x.2.1 := by
    have hl : acc.toList.length = ks.length := by rw [Array.length_toList, it.1]; exact l1
    apply List.ext_getElem?
    intro j
    rw [List.getElem?_map]
    cases hj : acc.toList[j]? with
    | none =>
      have h1 := List.getElem?_eq_none_iff.mp hj
      rw [List.getElem?_eq_none (by omega)]; rfl
    | some v =>
      obtain ⟨en, hen, hv⟩ := it.2 j v (by rw [← Array.getElem?_toList]; exact hj)
      have qe := entry_at he j
      rw [hen] at qe
      cases hb : ks[j]? with
      | none => rw [hb] at qe; cases qe
      | some b =>
        rw [hb] at qe
        cases qe
        rw [hv]; rfl
  have I1 : Inv X pins σ H { s with heap := h', toks := tk } := I.kept hk
  have each := kt_each pr
  rw [← ea] at each
  simp only [sortOk, Bool.and_eq_true, likeAll, decide_eq_true_eq] at ok
  obtain ⟨⟨⟨⟨o1, o2⟩, o3⟩, o4⟩, o5⟩ := ok
  have hal : acc.toList.length = (ws.map fun p => keyD p.1).length := by rw [ea, List.length_map, List.length_map]; exact l2.symm
  refine wpAny_bind (wpAny_newList ?_ (by rw [hal]; exact o5))
  have hoL : (h'.push (seqObj "list" acc.toList.toArray 0)).get? h'.objs.size = some (seqObj "list" acc.toList.toArray 0) := Heap.get?_push_size _ rfl
  show wpAny _ _ _ _ _ { s with heap := h'.push (seqObj "list" acc.toList.toArray 0), toks := tk }
  have er : PySem.W.EachIs (fun v b => ∃ as, Reads (h'.push (seqObj "list" acc.toList.toArray 0)) v (id b) as ∧ h'.objs.size ∉ as) acc.toList (ws.map fun p => keyD p.1) := by
    refine each.mono fun v d hv => ?_
    obtain ⟨b, l, rfl, hb, rfl⟩ := hv
    obtain ⟨as, hr⟩ := Dp.reads I1 (keyD l) (.ref b) (.ref b) (.tup (Or.inl (Or.inl hb)) (dp_key l)) rfl
    refine ⟨as, PyProof.Rows.Reads.keeps (fun _ _ e => Heap.get?_push_of_some _ e) hr, ?_⟩
    rw [key_as hr]; exact List.not_mem_nil
  refine wpAny_bind (wpAny_holding (PySem.W.list_sort_data (enc := id) (R := IsT H) (s := { s with heap := h'.push (seqObj "list" acc.toList.toArray 0), toks := tk }) hoL each er ?_ ?_ o5 (fun d hd => ?_) fun out ho hout => ?_))
  · rw [List.map_id]
    intro d hd d' hd'
    exact List.all_eq_true.mp (List.all_eq_true.mp o1 d hd) d' hd'
  · rw [List.map_id]; exact sortable_of (by simpa using o2)
  · have := List.all_eq_true.mp o4 d hd
    rw [decide_eq_true_eq] at this
    show X.A.in1.units + 1 + d.depth < cLine
    have e : X.A.in1.units = X.A.units + 1 := rfl
    omega
  · obtain ⟨e', he'⟩ := PyProof.Rows.sortedHeap_at (vs := acc.toList) (out := out.toArray) hoL
    obtain ⟨ys, hv⟩ := isT_vals hout
    have hlen : ys.length ≤ sizeLine := by rw [hv.length, ho]; exact o5
    refine wpAny_pure ⟨_, rfl, .ref h'.objs.size, upd H h'.objs.size (.lst ys), I1.laid (t' := tk) (fun b u e => ?_) (Nat.le_refl _)
      (show ObjOk X.prog X.w _ _ _ (.lst ys) from ⟨hlen, out, e', hv, he'⟩), rfl, q ys out _ hv hout (I1.hok.fresh (Nat.le_refl _))⟩
    have hb : b < h'.objs.size := Heap.lt_size e
    rw [PyProof.Rows.sortedHeap_old (Nat.ne_of_lt hb) (by rw [size_push']; exact Nat.lt_succ_of_lt hb)]
    exact Heap.get?_push_of_some _ e
def M.keysD (i : Nat) : M (List PyData) := fun e => match e[i]? with
  | some (some (.mt false (.dT kvs))) => if sortOk (kvs.map fun p => keyD p.1) = true then .ok (dSort (kvs.map fun p => keyD p.1)) e else .bad
  | _ => .bad
theorem keyD_inj {a b : List Key} (h : keyD a = keyD b) : a = b := by
  unfold keyD at h
  injection h with h
  have := congrArg keysOf h
  rw [keysOf_kD, keysOf_kD] at this
  exact Option.some.inj this
theorem RpKT.txt {K : PySem.W.Frag} {S : Hp} {ws : List (List Key × V)} {kvs : List (List Key × PyData)} (h : RpKT K S ws kvs) : ∀ p ∈ kvs, ∀ x, Sum.inr x ∈ p.1 → TxOk x := by
  induction h with
  | nil => intro p hp; cases hp
  | cons g _ _ ih =>
    intro p hp
    rcases List.mem_cons.mp hp with rfl | hp
    · exact g
    · exact ih p hp
theorem di_sortT {i : Nat} {y : Str} {p pos py : Pos} {tg : Expr} (hc : X.calm = true) (hu : X.A.units + 64 < cLine) (hm : X.mg "sorted" = none) (hg : Gl X "sorted" := by rfl) (hN : X.N[i]? = some y := by rfl) (hv : Vis X.env.scope y := by first | exact Or.inl rfl | exact Or.inr (Or.inl rfl) | exact Or.inr (Or.inr rfl))
    (hd : (y == ("__debug__" : Str)) = false := by decide) (hcd : (y == ("__classdict__" : Str)) = false := by decide) (hb : bootBuiltins "sorted" = some (.builtin "sorted") := by rfl)
    (he : starEach [.Name y py] X.env = (false, eval (.Name y py) X.env) :: starEach [] X.env := by rfl) (hpl : (backTo pos (starEach [] X.env)).any (·.1) = false := by rfl) :
    DI X W false tg (.Call (.Name "sorted" p) [.Name y py] [] pos) (M.keysD i) := by
  refine PI_mono (pi_list (pe_callB (cr_sortT hc hu) hg hm hb (pa_cons (pe_var hN hv hd hcd) pa_nil he) (by decide) (by decide) he hpl)) fun σ H Q ⟨F, P, S, env, rel, post⟩ => ?_
  unfold M.keysD at post
  split at post
  · rename_i kvs he
    split at post
    · rename_i ok
      obtain ⟨a, ws, g1, g2, g3, g4, g5⟩ := rel.dic he
      have ek : ws.map (fun p => keyD p.1) = kvs.map (fun p => keyD p.1) := by
        have := congrArg (List.map keyD) g5.keys
        rw [List.map_map, List.map_map] at this
        exact this
      refine ⟨.ref a, g1, a, ws, rfl, g2, by rw [ek]; exact ok, fun ys out q hv2 hout hq => ?_⟩
      rw [ek] at hout
      obtain ⟨S', zs, gr, hz, hr⟩ := adopt_all (K := X.K) hout (fun ks hk x hx => by
        have hm := (List.mergeSort_perm (kvs.map fun p => keyD p.1) (PySem.W.dataLe false id)).mem_iff.mp hk
        obtain ⟨kv, h1, h2⟩ := List.mem_map.mp hm
        have := keyD_inj h2
        subst this
        exact g5.txt kv h1 x hx) rel.sh
      have ez : zs = ys := refs_unique hz hv2 hout
      subst ez
      have g7 := gr.trans (Grow.new (o := .lst zs) gr.sh hq)
      exact ⟨q, rfl, ⟨zs, SqL.of upd_same⟩, post _ _ _ (rel.grow g7) g7.ss (wk_listW (SqL.of upd_same) (hr.mono (Ex.new (gr.sh.back hq))))⟩
    · exact post.elim
  · exact post.elim
/-! ### xs.extend([..]) -/
def M.ext (i : Nat) (d : PyData) : M Unit := fun e => match e[i]?, d with
  | some (some (.mt b (.lst ds))), .list zs => if ds.length + zs.length ≤ sizeLine then .ok () (e.set i (some (.lis b (ds ++ zs)))) else .bad
  | _, _ => .bad
theorem ds_ext {i : Nat} {x : Str} {e : Expr} {f : M PyData} {xp apos cpos pos : Pos} (h : DE X W e f) (hN : X.N[i]? = some x := by rfl) (hv : Vis X.env.scope x := by first | exact Or.inl rfl | exact Or.inr (Or.inl rfl) | exact Or.inr (Or.inr rfl))
    (hd : (x == ("__debug__" : Str)) = false := by decide) (hcd : (x == ("__classdict__" : Str)) = false := by decide)
    (hs : starEach [e] X.env = (false, eval e X.env) :: starEach [] X.env := by rfl)
    (hbase : attributeBase (.Name x xp) "extend" X.env (eval (.Name x xp) X.env) = eval (.Name x xp) X.env := by rfl)
    (hfew : ((backTo cpos (starEach [e] X.env)).all (fun x => !x.1) && (backToKw cpos (keywordEach [] X.env)).all (fun x => x.1.isSome)
      && decide ([e].length + ([] : List Keyword).length + (if ([] : List Keyword).isEmpty then 0 else 1) < 30)) = true := by rfl)
    (hline : (apos.endLine == cpos.line) = true := by rfl) (hplain : (backTo cpos (starEach [] X.env)).any (·.1) = false := by rfl)
    (hsw : swapsWith (.Call (.Attribute (.Name x xp) "extend" apos) [e] [] cpos) none pos.line X.env = pure false := by rfl) :
    DS X W (.Expr (.Call (.Attribute (.Name x xp) "extend" apos) [e] [] cpos) pos) (M.ownL i >>= fun _ => f >>= fun d => M.ext i d >>= fun _ => pure .nx) := by
  refine PS_mono (ps_expr (pe_bm PySem.F.plainAttrs_list PySem.F.slot_list_extend PySem.F.type_list_extend mt_extend (pe_var hN hv hd hcd) (pa_cons h pa_nil hs) hbase hfew hline hs hplain) hsw) fun D σ H ⟨F, P, S, env, rel, post⟩ => ?_
  obtain ⟨p, xs, h1, h2, post⟩ := PostS.ownL rel post
  refine ⟨.ref p, h1, .inl ⟨rfl, xs, SqL.of h2⟩, F, P, S, env, rel, PostS.stepE post fun d e q v S1 H1 rel1 ex1 rp1 => ?_⟩
  have q2 := PostS.step q (R' := fun (_ : Unit) e2 => FlOk X F P S D e2 .nx) fun _ e2 z => z
  unfold M.ext at q2
  split at q2
  · rename_i b ds zs he
    split at q2
    · rename_i hl
      obtain ⟨p', xs', g1, g2, g3, g4, g5, g6⟩ := rel1.lis he
      rw [h1] at g1; cases g1
      obtain ⟨a, vs, rfl, t1, t2⟩ := rp1.lst_inv
      exact ⟨p, a, xs', vs, rfl, rfl, g2, rel1.sh _ _ t1, by rw [g5.length, t2.length]; exact hl, q2 σ S1 _ (rel1.write he h1 (g5.append t2)) ex1⟩
    · exact q2.elim
  · exact q2.elim
end
end DL
/-! DLJ: x, y = a, b -/
namespace DL
open PySem L2
section
variable {X : Cx} {W : WX}
theorem ds_par3 {i j l : Nat} {x y z : Str} {a b c : Expr} {f : M (List PyData)} {px py pz pt pos : Pos} {kt k2 pt2} (hc : X.calm = true) (hN : X.N.Nodup) (ha : DA X W [a, b, c] f) (hi : X.N[i]? = some x := by rfl) (hj : X.N[j]? = some y := by rfl) (hl : X.N[l]? = some z := by rfl)
    (hij : i ≠ j := by decide) (hil : i ≠ l := by decide) (hjl : j ≠ l := by decide)
    (hx : X.env.scope.names.lookup x = some .local := by rfl) (hy : X.env.scope.names.lookup y = some .local := by rfl) (hz : X.env.scope.names.lookup z = some .local := by rfl)
    (hw : swappedStores [.Tuple [.Name x px, .Name y py, .Name z pz] kt pt] (.Tuple [a, b, c] k2 pt2) X.env = pure (some [x, y, z]) := by rfl)
    (hs : swapsWithSole [.Tuple [.Name x px, .Name y py, .Name z pz] kt pt] (.Tuple [a, b, c] k2 pt2) pos.line X.env = pure false := by rfl) :
    DS X W (.Assign [.Tuple [.Name x px, .Name y py, .Name z pz] kt pt] (.Tuple [a, b, c] k2 pt2) pos) (f >>= fun ds => M.tset (.tp [.nm i, .nm j, .nm l]) (.tuple ds) >>= fun _ => pure .nx) := by
  refine PS_mono (ps_par3 hc hN hi hj hl hij hil hjl hx hy hz ha hw hs) fun D σ H ⟨F, P, S, env, rel, post⟩ => ?_
  refine ⟨F, P, S, env, rel, PostS.stepE post fun ds e q vs S1 H1 rel1 ex1 rp1 => ?_⟩
  have q2 := PostS.step q (R' := fun (_ : Unit) e2 => FlOk X F P S D e2 .nx) fun _ e2 z => z
  cases rp1 with
  | nil => exact q2.elim
  | cons r1 t1 =>
    cases t1 with
    | nil => exact q2.elim
    | cons r2 t2 =>
      cases t2 with
      | nil => exact q2.elim
      | cons r3 t3 =>
        cases t3 with
        | nil => exact ⟨_, _, _, rfl, q2 _ S1 H1 (((rel1.setD r1).setD r2).setD r3) ex1⟩
        | cons r4 t4 => exact q2.elim
/-! ### < of tuples -/
def gLtT : PyData → PyData → Option PyData
  | .tuple xs, .tuple ys => if (PySem.W.alike (.tuple xs) (.tuple ys) && noDict (.tuple xs) && noDict (.tuple ys) && decide ((PyData.tuple xs).depth ≤ 60)) = true then some (.bool (PySem.W.dataLt (.tuple xs) (.tuple ys))) else none
  | _, _ => none
def rLtT (K : PySem.W.Frag) : R2 := fun x y H Q => ∃ dx dy, Dp K H x dx ∧ Dp K H y dy ∧ PySem.W.alike dx dy = true ∧ dx ≠ .none ∧ dx.depth ≤ 60 ∧ Q (.bl (PySem.W.dataLt dx dy)) H
theorem op_ltT (hu : X.A.units + 64 < cLine) : OpR X (compareOp .Lt) (rLtT X.K) := by
  intro pins s σ H x y v u Q I rx ry h
  obtain ⟨dx, dy, h1, h2, h3, h4, h5, q⟩ := h
  obtain ⟨as, r1⟩ := Dp.reads I dx x v h1 rx
  obtain ⟨bs, r2⟩ := Dp.reads I dy y u h2 ry
  refine PySem.W.rcLt_alike dx dy X.A s v u as bs r1 r2 h3 h4 ?_ X.prog X.w _ _ ⟨.bl _, H, I, rfl, q⟩
  have : min dx.depth dy.depth ≤ dx.depth := Nat.min_le_left _ _
  omega
theorem o_ltT (hu : X.A.units + 64 < cLine) : Op2 X (compareOp .Lt) gLtT := by
  refine ⟨_, op_ltT hu, fun S H x y dx dy dz Q e rx ry eq p => ?_⟩
  unfold gLtT at eq
  split at eq
  · split at eq
    · rename_i xs ys h
      cases eq
      simp only [Bool.and_eq_true, decide_eq_true_eq] at h
      obtain ⟨⟨⟨h1, h2⟩, h3⟩, h4⟩ := h
      exact ⟨_, _, Dp.mono' e (rx.dp h2).1, Dp.mono' e (ry.dp h3).1, h1, (fun z => nomatch z), h4, p.bl e⟩
    · cases eq
  · cases eq
/-! ### text * number -/
instance (x : Str) (n : Int) : Decidable (MulOk x n) := by unfold MulOk; infer_instance
def gMulS : PyData → PyData → Option PyData
  | .str x, .int n => if MulOk x n ∧ TxOk (Txt.mul x n) then some (.str (Txt.mul x n)) else none
  | _, _ => none
theorem op_mulS : OpR X (binaryOp .Mult) (fun x y H Q => ∃ a n, x = .str a ∧ y = .int n ∧ MulOk a n ∧ Q (.str (Txt.mul a n)) H) := by
  intro pins s σ H x y v u Q I rx ry h
  obtain ⟨a, n, rfl, rfl, ok, q⟩ := h
  obtain ⟨t, rfl⟩ := rx
  obtain ⟨t', rfl⟩ := ry
  exact PySem.SB.mul ok fun t'' k => ⟨.str _, H, I.tok k, ⟨_, rfl⟩, q⟩
theorem o_mulS : Op2 X (binaryOp .Mult) gMulS := by
  refine ⟨_, op_mulS, fun S H x y dx dy dz Q e rx ry eq p => ?_⟩
  unfold gMulS at eq
  split at eq
  · split at eq
    · rename_i x n h
      cases eq
      obtain ⟨rfl, _⟩ := rx.str_inv
      exact ⟨_, _, rfl, ry.int_inv, h.1, p _ _ _ (Grow.refl e) (.str _ h.2)⟩
    · cases eq
  · cases eq
def gMulA : PyData → PyData → Option PyData := orG gMul gMulS
theorem o_mulA : Op2 X (binaryOp .Mult) gMulA := o_mul.or o_mulS
def gLtA : PyData → PyData → Option PyData := orG gLt gLtT
theorem o_ltA (hu : X.A.units + 64 < cLine) : Op2 X (compareOp .Lt) gLtA := o_lt.or (o_ltT hu)
end
end DL
/-! DLK: t[::-1], repr of data -/
namespace DL
open PySem PySem.Spec L2 PyProof.Rows
section
variable {prog : Program} {w : World} {A : Around} {E : Value → Shared → Prop} {s : Shared}
theorem adjust_rev (n : Nat) : Builtin.Slice.sliceAdjust none none (-1) (n : Int) = ((n : Int) - 1, -1) := by
  unfold Builtin.Slice.sliceAdjust
  simp
theorem places_rev (n : Nat) : Builtin.Slice.slicePlaces ((n : Int) - 1) (-1) (-1) = n := by
  unfold Builtin.Slice.slicePlaces
  have h1 : ¬ ((-1 : Int) > 0) := by omega
  simp only [h1, if_false]
  split
  · simp
  · omega
theorem filterMap_ext {α β : Type} {f g : α → Option β} : ∀ {l : List α}, (∀ m ∈ l, f m = g m) → l.filterMap f = l.filterMap g
  | [], _ => rfl
  | x :: l, h => by
    rw [List.filterMap_cons, List.filterMap_cons, h x List.mem_cons_self, filterMap_ext fun m hm => h m (List.mem_cons_of_mem _ hm)]
theorem pick_rev (xs : Array Value) : ((List.range xs.size).filterMap fun (m : Nat) => xs[(((xs.size : Int) - 1) + (m : Int) * -1).toNat]?).toArray = xs.toList.reverse.toArray := by
  have h := HT.pick_gen xs.toList.reverse.toArray 0 xs.size
  have h2 : ((xs.toList.reverse.toArray.toList.drop 0).take xs.size).toArray = xs.toList.reverse.toArray := by
    rw [List.drop_zero, List.take_of_length_le (by simp)]
  rw [h2] at h
  rw [← h]
  congr 1
  refine filterMap_ext fun m hm => ?_
  rw [List.mem_range] at hm
  have e1 : (((xs.size : Int) - 1) + (m : Int) * -1).toNat = xs.size - 1 - m := by omega
  have e2 : (((0 : Nat) : Int) + (m : Int) * 1).toNat = m := by omega
  rw [e1, e2]
  simp [List.getElem?_reverse, hm]
theorem applied_rev {sl : Addr} {vs : Value} {n : Nat} {Q : Int × Int × Nat → Shared → Prop} (hs : s.heap.IsSliceOf sl .none .none vs) (ps : IsPart vs (some (-1))) (h : Q ((n : Int) - 1, -1, n) s) :
    wpAny (model prog w) A (Builtin.Slice.sliceApplied (.ref sl) (pure (n : Int))) Q E s := by
  obtain ⟨os, hos, hcs, hds⟩ := id hs
  unfold Builtin.Slice.sliceApplied Builtin.Slice.sliceFields
  refine wpAny_bind (wpAny_bind (wpAny_field hos hds (x := .none) rfl (wpAny_bind (wpAny_field hos hds (x := .none) rfl (wpAny_bind (wpAny_field hos hds (x := vs) rfl (wpAny_pure ?_)))))))
  refine wpAny_bind (HT.slicePart_ ps ?_)
  show wpAny _ _ (if ((-1 : Int) == 0) = true then _ else _) _ _ s
  rw [if_neg (by decide)]
  refine wpAny_bind (HT.slicePart_ .none (wpAny_bind (HT.slicePart_ .none (wpAny_bind (wpAny_pure ?_)))))
  show wpAny _ _ (match Builtin.Slice.sliceAdjust none none (-1) (n : Int) with | (lo, hi) => pure (lo, (-1 : Int), Builtin.Slice.slicePlaces lo hi (-1))) _ _ s
  rw [adjust_rev n]
  show wpAny _ _ (pure ((n : Int) - 1, (-1 : Int), Builtin.Slice.slicePlaces ((n : Int) - 1) (-1) (-1))) _ _ s
  rw [places_rev]
  exact wpAny_pure h
theorem item_tuple_rev {t sl : Addr} {items : Array Value} {vs : Value} {Q : Value → Shared → Prop} (ht : IsTup s.heap t items) (hs : s.heap.IsSliceOf sl .none .none vs) (ps : IsPart vs (some (-1)))
    (h : Q (.ref s.heap.objs.size) { s with heap := s.heap.push { cls := .type "tuple", data := .seq items.toList.reverse.toArray } }) (hsz : items.size ≤ sizeLine) : wpAny (model prog w) A (getItem (.ref t) (.ref sl)) Q E s := by
  have hz : sizeOk (.seq items.toList.reverse.toArray) := by
    show items.toList.reverse.toArray.size ≤ sizeLine
    simpa using hsz
  obtain ⟨os, hos, hcs, hds⟩ := id hs
  have hTs : s.TypeIs (.ref sl) "slice" := ⟨os, hos, hcs⟩
  unfold getItem
  try with_reducible refine wpAny_holding ?_
  first | refine wpAny_bind (wpAny_pure ?_) | skip
  refine wpAny_bind (wpAny_sequenceKey ht.typeIs (by decide) ?_)
  refine wpAny_bind (wpAny_callSpecial?_slot (name := Str.ofString "__getitem__") ht.typeIs PyProof.Rows.slot_tuple_getitem (wpAny_call_entry PyProof.Rows.slot_tuple_getitem ht.typeIs entry_tuple_getitem ?_ (args_tuple_getitem _ _)))
  show wpAny _ _ (Builtin.Tuple.tupleItemsOf (.ref t) >>= _) _ _ s
  refine wpAny_bind (tupleItemsOf_ ht (wpAny_bind (wpAny_typeOf hTs ?_)))
  rw [if_pos (by decide)]
  refine wpAny_bind (applied_rev hs ps ?_)
  show wpAny _ _ (if (((items.size : Int) - 1) == 0 && (-1 : Int) == 1 && items.size == items.size) = true then _ else _) _ _ s
  have hn : ¬ ((((items.size : Int) - 1) == 0 && (-1 : Int) == 1 && items.size == items.size) = true) := by simp
  rw [if_neg hn, pick_rev]
  first
    | exact wpAny_bind (m := Builtin.Tuple.tupleExact _) (wpAny_newObj_type (wpAny_pure ⟨_, rfl, wpAny_pure h⟩) hz)
    | exact wpAny_bind (m := Builtin.Tuple.tupleExact _) (wpAny_newObj_type (wpAny_bind (wpAny_pure (wpAny_pure ⟨_, rfl, wpAny_pure h⟩))) hz)
    | exact wpAny_bind (wpAny_bind (m := Builtin.Tuple.tupleExact _) (wpAny_newObj_type (wpAny_pure (wpAny_pure ⟨_, rfl, wpAny_pure h⟩)) hz))
    | exact wpAny_bind (wpAny_bind (m := Builtin.Tuple.tupleExact _) (wpAny_newObj_type (wpAny_pure ⟨_, rfl, wpAny_pure h⟩) hz))
end
mutual
theorem hasDict_no : ∀ d : PyData, noDict d = true → d.hasDict = false
  | .none, _ => by simp [PyData.hasDict]
  | .bool _, _ => by simp [PyData.hasDict]
  | .int _, _ => by simp [PyData.hasDict]
  | .str _, _ => by simp [PyData.hasDict]
  | .list xs, h => by simp only [PyData.hasDict]; exact hasDicts_no xs (by simpa [noDict] using h)
  | .tuple xs, h => by simp only [PyData.hasDict]; exact hasDicts_no xs (by simpa [noDict] using h)
  | .dict _, h => by simp [noDict] at h
theorem hasDicts_no : ∀ ds : List PyData, noDicts ds = true → PyData.hasDictAll ds = false
  | [], _ => by simp [PyData.hasDictAll]
  | d :: ds, h => by
    simp only [noDicts, Bool.and_eq_true] at h
    simp [PyData.hasDictAll, hasDict_no d h.1, hasDicts_no ds h.2]
end
section
variable {X : Cx} {W : WX}
def tRevA (K : PySem.W.Frag) (te : TE) : TE := fun σ H Q => te σ H fun x H1 => ∃ a xs, x = .ref a ∧ ((SqL K H1 a xs ∧ ∀ p, H1 p = none → Q (.ref p) (upd H1 p (.lst xs.reverse))) ∨ (SqT K H1 a xs ∧ NewT H1 xs.reverse Q))
theorem pe_revA {e : Expr} {te : TE} {k : Nat} {p1 p2 p3 pos : Pos} (he : PE X e te) : PE X (.Subscript e (.Slice none none (some (.UnaryOp .USub (.Constant (.int 1) k p1) p2)) p3) pos) (tRevA X.K te) := by
  refine ⟨fun pins s σ H Q I h => Subscript_ (thn (he.run pins s σ H _ I h) fun v s1 ⟨x, H1, I1, r1, q1⟩ => ?_)⟩
  obtain ⟨a, xs, rfl, q⟩ := q1
  cases r1
  have hst : PO X (some (.UnaryOp .USub (.Constant (.int 1) k p1) p2)) (tPart (tUn (rU fun i => .int (-i)) (tC (.int 1)))) := po_some (pe_un un_neg pe_int)
  refine wpAny_Slice (thn (po_none.run pins s1 σ H1 (fun o H2 => o = none ∧ H2 = H1) I1 ⟨rfl, rfl⟩) fun vl s2 ⟨l, H2, I2, pl, el, e2⟩ => ?_)
  subst el e2
  cases pl
  refine thn (po_none.run pins s2 σ H2 (fun o H3 => o = none ∧ H3 = H2) I2 ⟨rfl, rfl⟩) fun vu s3 ⟨u, H3, I3, pu, eu, e3⟩ => ?_
  subst eu e3
  cases pu
  refine thn (hst.run pins s3 σ H3 (fun o H4 => o = some (-1) ∧ H4 = H3) I3 ⟨1, rfl, -1, rfl, rfl, rfl⟩) fun vs s4 ⟨o, H4, I4, ps, eo, e4⟩ => ?_
  subst eo e4
  have I5 : Inv X pins σ H4 { s4 with heap := s4.heap.push { cls := .type "slice", data := .fields #[.none, .none, vs] } } := I4.kept (t' := s4.toks) fun b ob q => Heap.get?_push_of_some _ q
  show wpAny (model X.prog X.w) X.A (subscriptTail e (.Slice none none (some (.UnaryOp .USub (.Constant (.int 1) k p1) p2)) p3) (.ref a) (.ref s4.heap.objs.size)) (EP X pins σ Q) X.xe { s4 with heap := s4.heap.push { cls := .type "slice", data := .fields #[.none, .none, vs] } }
  rcases q with ⟨hx, q⟩ | ⟨hx, q⟩
  · obtain ⟨its, r, ht, hz⟩ := I5.list hx
    have hlen := r.length
    refine tail_any (ops := [.ref a, .ref s4.heap.objs.size]) ht.isList.typeIs (PySem.slot_list_getitem.lookup) ?_ (by with_unfolding_all rfl)
    refine wpAny_getItem_list_slice ht.isList (Heap.IsSliceOf.new _ .none .none vs) .none .none ps (by decide) ?_ (by rw [List.size_toArray]; omega)
    rw [PySem.W.krv_pick]
    exact ⟨.ref _, _, I5.laid (t' := s4.toks) (o := .lst xs.reverse) (fun b ob q => Heap.get?_push_of_some _ q) (Nat.le_refl _) ⟨by rw [List.length_reverse]; exact hz, _, 0, r.reverse, Heap.get?_push_size _ rfl⟩, rfl, q _ (I5.hok.fresh (Nat.le_refl _))⟩
  · obtain ⟨its, r, ht, hz⟩ := I5.tuple hx
    have hlen := r.length
    refine tail_any (ops := [.ref a, .ref s4.heap.objs.size]) ht.typeIs PyProof.Rows.slot_tuple_getitem.lookup ?_ (by with_unfolding_all rfl)
    refine item_tuple_rev ht (Heap.IsSliceOf.new _ .none .none vs) ps ?_ (by rw [List.size_toArray]; omega)
    exact Inv.newT (s := { s4 with heap := s4.heap.push { cls := .type "slice", data := .fields #[.none, .none, vs] } }) I5 (by rw [List.length_reverse]; exact hz) r.reverse q
theorem RpAll.rev {K : PySem.W.Frag} {S : Hp} : ∀ {vs : List V} {ds : List PyData}, RpAll K S vs ds → RpAll K S vs.reverse ds.reverse
  | _, _, .nil => .nil
  | _, _, .cons h r => by
    rw [List.reverse_cons, List.reverse_cons]
    exact (RpAll.rev r).append (RpAll.one h)
def gRev : PyData → Option PyData
  | .list ds => some (.list ds.reverse)
  | .tuple ds => some (.tuple ds.reverse)
  | _ => none
theorem de_rev {a : Expr} {fa : M PyData} {k : Nat} {p1 p2 p3 pos : Pos} (ha : DE X W a fa) : DE X W (.Subscript a (.Slice none none (some (.UnaryOp .USub (.Constant (.int 1) k p1) p2)) p3) pos) (fa >>= fun x => M.lift (gRev x)) := by
  refine PE_mono (pe_revA ha) fun σ H Q ⟨F, P, S, env, rel, post⟩ => ?_
  refine ⟨F, P, S, env, rel, Post.step post fun d e p v S1 H1 rel1 ex1 rp1 => ?_⟩
  obtain ⟨dz, ez, q⟩ := p.lift
  unfold gRev at ez
  split at ez
  · cases ez
    obtain ⟨a, xs, rfl, g1, r1⟩ := rp1.lst_inv
    refine ⟨a, xs, rfl, .inl ⟨rel1.sh.l (SqL.of g1), fun p hp => ?_⟩⟩
    have gr : Grow X.K S1 H1 (upd S1 p (.lst xs.reverse)) (upd H1 p (.lst xs.reverse)) := Grow.new rel1.sh hp
    exact q (.ref p) _ _ (rel1.grow gr) (ex1.trans gr.ss) (.lst upd_same (r1.rev.mono gr.ss))
  · cases ez
    obtain ⟨a, xs, rfl, g1, r1⟩ := rp1.tup_inv
    refine ⟨a, xs, rfl, .inr ⟨rel1.sh.t g1, ?_⟩⟩
    exact Pure.tup (fun w S4 H4 gr rw => q w S4 H4 (rel1.grow gr) (ex1.trans gr.ss) rw) rel1.sh r1.rev
  · cases ez
/-! ### repr of data -/
def reprOk (d : PyData) : Bool := noDict d && d.showable && decide (d.depth ≤ 60) && decide (TxOk d.shown)
def gReprA : List PyData → Option PyData
  | [d] => if reprOk d = true then some (.str d.shown) else none
  | _ => none
theorem cr_reprD (hg : X.A.guards = some []) (hu : X.A.units + 64 < cLine) : CallR X (.builtin "repr") (fun xs H Q => ∃ v d, xs = [v] ∧ Dp X.K H v d ∧ reprOk d = true ∧ Q (.str d.shown) H) := by
  intro pins s σ H xs us Q I r h
  obtain ⟨v, d, rfl, hd, ok, q⟩ := h
  obtain ⟨u, rfl, rx⟩ := vals1 r
  simp only [reprOk, Bool.and_eq_true, decide_eq_true_eq] at ok
  obtain ⟨⟨⟨o1, o2⟩, o3⟩, o4, o5⟩ := ok
  cases hd with
  | non => cases rx; exact PySem.P.repr_of_none ⟨.str _, H, I.tok _, ⟨_, rfl⟩, q⟩
  | bl b => cases rx; exact PySem.P.repr_of_bool ⟨.str _, H, I.tok _, ⟨_, rfl⟩, by cases b <;> exact q⟩
  | int i =>
    obtain ⟨t, rfl⟩ := rx
    exact PySem.P.repr_of_int (by simpa [PyData.showable] using o2) ⟨.str _, H, I.tok _, ⟨_, rfl⟩, q⟩
  | str x =>
    obtain ⟨t, rfl⟩ := rx
    exact PySem.P.repr_of_str ⟨.str _, H, I.tok _, ⟨_, rfl⟩, q⟩ (by simpa [PyData.shown] using o4)
  | lst h1 h2 =>
    cases rx
    obtain ⟨as, hr⟩ := Dp.reads I _ _ _ (.lst h1 h2) rfl
    refine repr_of_reads' hr o2 (PyData.noDict_hsm ?_) hg (by omega) (fun _ _ e => e) (fun h' u tk hk => ⟨.str _, H, I.kept hk, ⟨_, rfl⟩, q⟩) o4
    exact hasDict_no _ o1
  | tup h1 h2 =>
    cases rx
    obtain ⟨as, hr⟩ := Dp.reads I _ _ _ (.tup h1 h2) rfl
    refine repr_of_reads' hr o2 (PyData.noDict_hsm ?_) hg (by omega) (fun _ _ e => e) (fun h' u tk hk => ⟨.str _, H, I.kept hk, ⟨_, rfl⟩, q⟩) o4
    exact hasDict_no _ o1
theorem c_reprA (hg : X.A.guards = some []) (hu : X.A.units + 64 < cLine) : CallD X (.builtin "repr") gReprA := by
  refine ⟨_, cr_reprD hg hu, fun S H xs ds dz Q e rx eq p => ?_⟩
  unfold gReprA at eq
  split at eq
  · split at eq
    · rename_i d ok
      cases eq
      obtain ⟨v, rfl, r⟩ := rx.one_inv
      have ok' := ok
      simp only [reprOk, Bool.and_eq_true, decide_eq_true_eq] at ok'
      exact ⟨v, d, rfl, Dp.mono' e (r.dp ok'.1.1.1).1, ok, p.str e ok'.2⟩
    · cases eq
  · cases eq
end
end DL
/-! DLL: dict(pairs), d[k], d.get(k), k in d: dicts as data -/
namespace DL
open PySem PySem.Spec L2 PyProof.Rows
def asK : PyData → Option Key
  | .int i => some (.inl i)
  | .str x => some (.inr x)
  | _ => none
theorem asK_kD (k : Key) : asK (kD k) = some k := by cases k <;> rfl
theorem asK_eq {d : PyData} {k : Key} (h : asK d = some k) : d = kD k := by
  cases d <;> simp [asK] at h <;> subst h <;> rfl
theorem Rp.key {K : PySem.W.Frag} {S : Hp} {v : V} {k : Key} (h : Rp K S v (kD k)) : v = kV k := by
  cases k with
  | inl i => exact Rp.int_inv h
  | inr x => exact (Rp.str_inv h).1
def dLook (kvs : List (PyData × PyData)) (k : Key) : Option PyData := (kvs.find? fun p => decide (asK p.1 = some k)).map (·.2)
def mkD (kvs : List (Key × PyData)) : List (PyData × PyData) := kvs.map fun p => (kD p.1, p.2)
def dPutG (kvs : List (Key × PyData)) (k : Key) (d : PyData) : List (Key × PyData) := if (kvs.any fun kv => decide (kv.1 = k)) = true then kvs.map (fun kv => if kv.1 = k then (kv.1, d) else kv) else kvs ++ [(k, d)]
def dMerge (kvs : List (Key × PyData)) (more : List (Key × PyData)) : List (Key × PyData) := more.foldl (fun acc p => dPutG acc p.1 p.2) kvs
def pairsOf : List PyData → Option (List (Key × PyData))
  | [] => some []
  | .tuple [k, v] :: r => (asK k).bind fun k => (pairsOf r).map ((k, v) :: ·)
  | _ => none
section
variable {K : PySem.W.Frag} {S : Hp}
theorem RpKv.look : ∀ {ws : List (Key × V)} {ds : List (PyData × PyData)}, RpKv K S ws ds → ∀ k, (∀ d, dLook ds k = some d → ∃ v, valV ws k = some v ∧ Rp K S v d) ∧ (dLook ds k = none → valV ws k = none)
  | _, _, .nil, k => ⟨fun d h => by simp [dLook] at h, fun _ => rfl⟩
  | (k', v) :: ws, _, .cons (d := d') (ds := ds) h r, k => by
    have ih := RpKv.look r k
    by_cases e : k' = k
    · subst e
      have e1 : dLook ((kD k', d') :: ds) k' = some d' := by simp [dLook, List.find?_cons, asK_kD]
      refine ⟨fun d hd => ?_, fun hd => by rw [e1] at hd; cases hd⟩
      rw [e1] at hd; cases hd
      exact ⟨v, valV_pos rfl, h⟩
    · have e1 : dLook ((kD k', d') :: ds) k = dLook ds k := by
        have : ¬ (asK (kD k') = some k) := by rw [asK_kD]; exact fun z => e (Option.some.inj z)
        simp [dLook, List.find?_cons, this]
      rw [e1, valV_neg e]
      exact ih
theorem RpKv.put {ws : List (Key × V)} {kvs : List (Key × PyData)} {k : Key} {v : V} {d : PyData} (h : RpKv K S ws (mkD kvs)) (r : Rp K S v d) : RpKv K S (putK ws k v) (mkD (dPutG kvs k d)) := by
  have keys : ∀ {ws : List (Key × V)} {kvs : List (Key × PyData)}, RpKv K S ws (mkD kvs) → ws.map (·.1) = kvs.map (·.1) := by
    intro ws
    induction ws with
    | nil => intro kvs h; cases kvs with | nil => rfl | cons _ _ => cases h
    | cons w ws ih =>
      intro kvs h
      cases kvs with
      | nil => cases h
      | cons p kvs =>
        obtain ⟨pk, pd⟩ := p
        generalize hk : kD pk = kk at h
        simp only [mkD, List.map_cons, hk] at h
        cases h with
        | cons h1 h2 =>
          have e := congrArg asK hk
          rw [asK_kD, asK_kD] at e
          cases e
          simp only [List.map_cons]
          rw [ih h2]
  have any : (ws.any fun kv => decide (kv.1 = k)) = kvs.any fun kv => decide (kv.1 = k) := by
    have := keys h
    have e1 : (ws.any fun kv => decide (kv.1 = k)) = (ws.map (·.1)).any fun x => decide (x = k) := by rw [List.any_map]; rfl
    have e2 : (kvs.any fun kv => decide (kv.1 = k)) = (kvs.map (·.1)).any fun x => decide (x = k) := by rw [List.any_map]; rfl
    rw [e1, e2, this]
  unfold putK dPutG
  rw [any]
  split
  · rename_i hany; clear hany any keys
    induction ws generalizing kvs with
    | nil => cases kvs with | nil => exact .nil | cons _ _ => cases h
    | cons w ws ih =>
      cases kvs with
      | nil => cases h
      | cons p kvs =>
        obtain ⟨pk, pd⟩ := p
        generalize hk : kD pk = kk at h
        simp only [mkD, List.map_cons, hk] at h
        cases h with
        | cons h1 h2 =>
          have e := congrArg asK hk
          rw [asK_kD, asK_kD] at e
          cases e
          simp only [mkD, List.map_cons]
          split
          · exact .cons r (ih h2)
          · exact .cons h1 (ih h2)
  · rename_i hany; clear hany any keys
    induction ws generalizing kvs with
    | nil => cases kvs with | nil => exact .cons r .nil | cons _ _ => cases h
    | cons w ws ih =>
      cases kvs with
      | nil => cases h
      | cons p kvs =>
        obtain ⟨pk, pd⟩ := p
        generalize hk : kD pk = kk at h
        simp only [mkD, List.map_cons, hk] at h
        cases h with
        | cons h1 h2 =>
          have e := congrArg asK hk
          rw [asK_kD, asK_kD] at e
          cases e
          exact .cons h1 (ih h2)
/-- the pairs, key by key -/
inductive RpKs (K : PySem.W.Frag) (S : Hp) : List (Key × V) → List (Key × PyData) → Prop
  | nil : RpKs K S [] []
  | cons {k : Key} {v : V} {d : PyData} {ws : List (Key × V)} {kvs : List (Key × PyData)} : Rp K S v d → RpKs K S ws kvs → RpKs K S ((k, v) :: ws) ((k, d) :: kvs)
theorem RpKs.merge : ∀ {ws : List (Key × V)} {kvs : List (Key × PyData)} {acc : List (Key × V)} {dacc : List (Key × PyData)}, RpKs K S ws kvs → RpKv K S acc (mkD dacc) → RpKv K S (mergeK acc ws) (mkD (dMerge dacc kvs))
  | _, _, _, _, .nil, h => h
  | _, _, _, _, .cons r t, h => by
    show RpKv K S (mergeK (putK _ _ _) _) (mkD (dMerge (dPutG _ _ _) _))
    exact RpKs.merge t (h.put r)
theorem RpAll.pairs : ∀ {xs : List V} {ds : List PyData} {kvs : List (Key × PyData)}, RpAll K S xs ds → pairsOf ds = some kvs → ∃ (ps : List Addr) (ws : List (Key × V)), xs = ps.map V.ref ∧ Paired (fun p kv => SqT K S p [kV kv.1, kv.2]) ps ws ∧ RpKs K S ws kvs
  | _, _, _, .nil, h => by cases h; exact ⟨[], [], rfl, .nil, .nil⟩
  | _, _, _, .cons (d := d) (ds := ds) h r, q => by
    unfold pairsOf at q
    split at q
    · rename_i e; cases e
    · rename_i k v ds' e
      cases e
      obtain ⟨k', hk, q⟩ := Option.bind_eq_some_iff.mp q
      obtain ⟨kvs', h1, rfl⟩ := Option.map_eq_some_iff.mp q
      have := asK_eq hk
      subst this
      obtain ⟨ps, ws, rfl, h2, h3⟩ := RpAll.pairs r h1
      obtain ⟨a, ys, rfl, g1, g2⟩ := h.tup_inv
      obtain ⟨x, y, rfl, r1, r2⟩ := g2.two_inv
      rw [r1.key] at g1
      exact ⟨a :: ps, (k', y) :: ws, rfl, .cons g1 h2, .cons r2 h3⟩
    · cases q
end
section
variable {X : Cx} {W : WX}
theorem Inv.plain {pins : List (Addr × Obj)} {σ : L2.St} {H : Hp} {s : Shared} {a : Addr} {xs : List V} (I : Inv X pins σ H s) (h : PlT X.K H a xs) : ∃ its : List Value, Vals xs its ∧ PlainSeq "tuple" s.heap a its.toArray ∧ xs.length ≤ sizeLine := by
  obtain ⟨its, r, ⟨o, h1, h2, n, h3⟩, hz⟩ := I.tuple h.sq
  refine ⟨its, r, ⟨o, n, h1, h2, ?_, h3⟩, hz⟩
  rcases h with ⟨ob, g1, g2⟩ | ⟨o', its', n', g1, _, _, _, _, g2⟩
  · obtain ⟨e, _⟩ := I.hok a _ g1
    rw [h1] at e; cases e
    exact g2
  · have e := I.kIn a o' g1
    rw [h1] at e; cases e
    exact g2
theorem pick_us {P : Addr → Value → Key × Value → Prop} : ∀ {prs : List (Key × Value)} {ps : List Addr}, prs.length = ps.length → (∀ (j : Nat) (q : Key × Value), prs[j]? = some q → ∃ b u, ps[j]? = some b ∧ P b u q) →
    ∃ us : List Value, us.length = ps.length ∧ ∀ (j : Nat) (q : Key × Value), prs[j]? = some q → ∃ b u, ps[j]? = some b ∧ us[j]? = some u ∧ P b u q
  | [], [], _, _ => ⟨[], rfl, fun j q e => by simp at e⟩
  | [], _ :: _, h, _ => by simp at h
  | _ :: _, [], h, _ => by simp at h
  | r :: prs, p :: ps, h, g => by
    obtain ⟨us, h1, h2⟩ := pick_us (prs := prs) (ps := ps) (by simpa using h) fun j q e => by simpa using g (j + 1) q (by simpa using e)
    obtain ⟨b, u, g1, g2⟩ := g 0 r rfl
    refine ⟨u :: us, by simp [h1], fun j q e => ?_⟩
    cases j with
    | zero =>
      simp at e; subst e
      exact ⟨b, u, g1, rfl, g2⟩
    | succ j => simpa using h2 j q (by simpa using e)
theorem cr_dictT (hc : X.calm = true) : CallR X (.type "dict") (fun xs H Q => ∃ (a : Addr) (ps : List Addr) (kvs : List (Key × V)), xs = [.ref a] ∧ PlT X.K H a (ps.map V.ref) ∧ Paired (fun p kv => SqT X.K H p [kV kv.1, kv.2]) ps kvs ∧ ∀ p, H p = none → Q (.ref p) (upd H p (.dK (mergeK [] kvs)))) := by
  intro pins s σ H xs us Q I r q
  obtain ⟨a, ps, kvs, rfl, hq, hp, q⟩ := q
  obtain ⟨u, rfl, rx⟩ := vals1 r
  cases rx
  obtain ⟨its, rv, pl, hz⟩ := Inv.plain I hq
  have ei := refs_at rv
  subst ei
  rw [List.length_map] at hz
  obtain ⟨prs, rel, hl, hpr⟩ := pairs_of I hp
  let Ts : Nat → Addr := fun j => ps.getD j 0
  have hus : ∃ us : List Value, us.length = ps.length ∧ ∀ (j : Nat) (q' : Key × Value), prs[j]? = some q' → ∃ b u, ps[j]? = some b ∧ us[j]? = some u ∧ IsTup s.heap b #[u, q'.2] ∧ keyIs q'.1 u = true := by
    exact pick_us hl hpr
  obtain ⟨us, hul, hus⟩ := hus
  have PA := PairArg.tuple (prog := X.prog) (w := X.w) a (ps.map Value.ref).toArray Ts (us.zip (prs.map (·.2)))
  have hzl : (us.zip (prs.map (·.2))).length = ps.length := by rw [List.length_zip, List.length_map, hul, hl]; omega
  have hget : ∀ (j : Nat) (k v : Value), (us.zip (prs.map (·.2)))[j]? = some (k, v) → ∃ q' : Key × Value, prs[j]? = some q' ∧ us[j]? = some k ∧ q'.2 = v := by
    intro j k v e
    rw [List.getElem?_zip_eq_some] at e
    obtain ⟨e1, e2⟩ := e
    rw [List.getElem?_map] at e2
    obtain ⟨q', h1, h2⟩ := Option.map_eq_some_iff.mp e2
    exact ⟨q', h1, e1, h2⟩
  have ok : PlainSeq "tuple" s.heap a (ps.map Value.ref).toArray ∧ PairItems s.heap (ps.map Value.ref).toArray Ts (us.zip (prs.map (·.2))) := by
    refine ⟨pl, by rw [hzl]; simp, fun j k v e => ?_⟩
    obtain ⟨q', h1, h2, rfl⟩ := hget j k v e
    obtain ⟨b, u, g1, g2, g3, _⟩ := hus j q' h1
    rw [h2] at g2; cases g2
    have eb : Ts j = b := by show ps.getD j 0 = b; rw [List.getD_eq_getElem?_getD, g1]; rfl
    rw [eb]
    obtain ⟨o, x1, x2, n, x3⟩ := g3
    exact ⟨by simp [g1], .inl ⟨o, x1, x2, n, x3⟩⟩
  refine PySem.call_dict_pairs (knd := mixKind X.prog X.w) (kvs := prs) PA (I.ok.hd hc) ok ⟨by rw [hzl, hl], fun i key v e => ?_⟩ (by rw [hzl]; exact hz) fun h' tk hd' k => ?_
  · obtain ⟨q', h1, h2, rfl⟩ := hget i key v e
    obtain ⟨b, u, g1, g2, g3, g4⟩ := hus i q' h1
    rw [h2] at g2; cases g2
    exact ⟨q'.1, h1, g4⟩
  · have hm : (s.heap.objs.size == sysModules) = false := beq_eq_false_iff_ne.mpr (Nat.ne_of_gt I.big)
    have hlen : (mergeK [] kvs).length ≤ sizeLine := by
      refine Nat.le_trans (length_mergeK kvs []) ?_
      rw [List.length_nil, Nat.zero_add, rel.length, hl]
      exact hz
    exact ⟨.ref s.heap.objs.size, upd H s.heap.objs.size (.dK (mergeK [] kvs)), I.laid (t' := tk) (fun b o e => k b o (fun z => nomatch z) e) (Nat.le_refl _) (show ObjOk X.prog X.w _ _ _ (.dK (mergeK [] kvs)) from ⟨hlen, hm, merged [] prs, KV.merge rel .nil, hd'⟩), rfl, q _ (I.hok.fresh (Nat.le_refl _))⟩
def gDictOf : List PyData → Option PyData
  | [.tuple ds] => (pairsOf ds).map fun kvs => .dict (mkD (dMerge [] kvs))
  | [.list ds] => (pairsOf ds).map fun kvs => .dict (mkD (dMerge [] kvs))
  | [.dict kvs] => some (.dict kvs)
  | _ => none
theorem Pure.dct {K : PySem.W.Frag} {S H : Hp} {ws : List (Key × V)} {ds : List (PyData × PyData)} {Q : VK} (p : Pure K S H (.dict ds) Q) (e : Ex S H) (r : RpKv K S ws ds) : ∀ a, H a = none → Q (.ref a) (upd H a (.dK ws)) := fun a ha => by
  have gr : Grow K S H (upd S a (.dK ws)) (upd H a (.dK ws)) := Grow.new e ha
  exact p (.ref a) _ _ gr (.dct (.inl upd_same) (r.mono gr.ss))
theorem paired_mono {S S' : Hp} {K : PySem.W.Frag} (e : Ex S S') {ps : List Addr} {ws : List (Key × V)} (h : Paired (fun p kv => SqT K S p [kV kv.1, kv.2]) ps ws) : Paired (fun p kv => SqT K S' p [kV kv.1, kv.2]) ps ws := Paired.mapP h fun _ _ q => e.t q
theorem c_dict (hc : X.calm = true) : CallD X (.type "dict") gDictOf := by
  refine ⟨_, CallR_or (cr_dictT hc) (CallR_or (call_dictP hc) call_dictD), fun S H xs ds dz Q e rx eq p => ?_⟩
  unfold gDictOf at eq
  split at eq
  · obtain ⟨kvs, h1, rfl⟩ := Option.map_eq_some_iff.mp eq
    obtain ⟨v, rfl, r⟩ := rx.one_inv
    obtain ⟨a, ys, rfl, g1, r1⟩ := r.tup_invP
    obtain ⟨ps, ws, rfl, g2, g3⟩ := r1.pairs h1
    exact .inl ⟨a, ps, ws, rfl, e.p g1, paired_mono e g2, p.dct e (g3.merge .nil)⟩
  · obtain ⟨kvs, h1, rfl⟩ := Option.map_eq_some_iff.mp eq
    obtain ⟨v, rfl, r⟩ := rx.one_inv
    obtain ⟨a, ys, rfl, g1, r1⟩ := r.lst_inv
    obtain ⟨ps, ws, rfl, g2, g3⟩ := r1.pairs h1
    exact .inr (.inl ⟨a, ps, ws, rfl, e.l (SqL.of g1), paired_mono e g2, p.dct e (g3.merge .nil)⟩)
  · cases eq
    obtain ⟨v, rfl, r⟩ := rx.one_inv
    obtain ⟨a, ws, rfl, g1, r1⟩ := r.dct_inv
    exact .inr (.inr ⟨a, ws, rfl, e.rd g1, p.dct e r1⟩)
  · cases eq
/-! ### x[k], x a sequence or a dict -/
theorem PE_or {e : Expr} {t t' : TE} (h : PE X e t) (h' : PE X e t') : PE X e (fun σ H Q => t σ H Q ∨ t' σ H Q) := ⟨fun pins s σ H Q I q => q.elim (fun q => h.run pins s σ H Q I q) fun q => h'.run pins s σ H Q I q⟩
def gIxK : PyData → PyData → Option PyData
  | .dict kvs, k => (asK k).bind (dLook kvs)
  | _, _ => none
def gIxA : PyData → PyData → Option PyData := orG gIx gIxK
theorem two_or {fa fb : M PyData} {g g' : PyData → PyData → Option PyData} {σ : L2.St} {H : Hp} {Q : VK} (h : tD X W (fa >>= fun x => fb >>= fun y => M.lift (orG g g' x y)) σ H Q) :
    tD X W (fa >>= fun x => fb >>= fun y => M.lift (g x y)) σ H Q ∨ tD X W (fa >>= fun x => fb >>= fun y => M.lift (g' x y)) σ H Q := by
  obtain ⟨F, P, S, env, rel, post⟩ := h
  cases hf : fa env with
  | bad => rw [bind_run, hf] at post; exact post.elim
  | exc x e1 => rw [bind_run, hf] at post; refine .inl ⟨F, P, S, env, rel, ?_⟩; rw [bind_run, hf]; exact post
  | ok dx e1 =>
    rw [bind_run, hf, then_ok, bind_run] at post
    cases hb : fb e1 with
    | bad => rw [hb] at post; exact post.elim
    | exc x e2 => rw [hb] at post; refine .inl ⟨F, P, S, env, rel, ?_⟩; rw [bind_run, hf, then_ok, bind_run, hb]; exact post
    | ok dy e2 =>
      rw [hb, then_ok] at post
      cases hg : g dx dy with
      | some z =>
        refine .inl ⟨F, P, S, env, rel, ?_⟩
        rw [bind_run, hf, then_ok, bind_run, hb, then_ok]
        have : orG g g' dx dy = g dx dy := by unfold orG; rw [hg]
        rw [this] at post; exact post
      | none =>
        refine .inr ⟨F, P, S, env, rel, ?_⟩
        rw [bind_run, hf, then_ok, bind_run, hb, then_ok]
        have : orG g g' dx dy = g' dx dy := by unfold orG; rw [hg]
        rw [this] at post; exact post
variable {a b : Expr} {fa fb : M PyData} {pos : Pos}
theorem de_ixK (hu : X.A.units + 64 < cLine) (ha : DE X W a fa) (hb : DE X W b fb) (hs : NoSl b := by exact fun _ _ => rfl) : DE X W (.Subscript a b pos) (fa >>= fun x => fb >>= fun y => M.lift (gIxK x y)) := by
  refine PE_mono (pe_dget (by omega) ha hb hs) fun σ H Q ⟨F, P, S, env, rel, post⟩ => ?_
  refine ⟨F, P, S, env, rel, post.step fun dx e1 p1 v S1 H1 rel1 ex1 rp1 => ?_⟩
  refine ⟨F, P, S1, e1, rel1, (p1.step (R' := fun dy e2 => Post X W F P S σ (M.lift (gIxK dx dy) e2) _) fun dy e2 q => q).mono ex1 fun dy e2 p2 u S2 H2 rel2 ex2 rp2 => ?_⟩
  obtain ⟨dz, e, q⟩ := p2.lift
  unfold gIxK at e
  split at e
  · rename_i kvs
    obtain ⟨k, hk, hl⟩ := Option.bind_eq_some_iff.mp e
    have := asK_eq hk
    subst this
    obtain ⟨a, ws, rfl, g1, r1⟩ := (rp1.mono ex2).dct_inv
    obtain ⟨v, h1, h2⟩ := (r1.look k).1 dz hl
    exact ⟨a, v, rfl, .inl ⟨ws, k, rel2.sh.rd g1, rp2.key, h1.symm⟩, q v S2 H2 rel2 (ex1.trans ex2) h2⟩
  · cases e
theorem de_ixA (hu : X.A.units + 64 < cLine) (ha : DE X W a fa) (hb : DE X W b fb) (hs : NoSl b := by exact fun _ _ => rfl) (hs2 : PlainIx b := by exact fun _ _ => rfl) : DE X W (.Subscript a b pos) (fa >>= fun x => fb >>= fun y => M.lift (gIxA x y)) :=
  PE_mono (PE_or (de_ix i_seq ha hb hs2) (de_ixK hu ha hb hs)) fun σ H Q h => two_or h
/-! ### d.get(k), d.get(k, x) -/
def asD : PyData → Option (List (PyData × PyData))
  | .dict kvs => some kvs
  | _ => none
theorem asD_eq {d : PyData} {kvs : List (PyData × PyData)} (h : asD d = some kvs) : d = .dict kvs := by
  cases d <;> simp [asD] at h
  subst h; rfl
def gGet1 (kvs : List (PyData × PyData)) (k : PyData) : Option PyData := (asK k).map fun k => (dLook kvs k).getD .none
def gGet2 (kvs : List (PyData × PyData)) (k d : PyData) : Option PyData := (asK k).map fun k => (dLook kvs k).getD d
theorem isD_of {H : Hp} {a : Addr} {ws : List (Key × V)} (h : Rd H a (.dK ws)) : L2.IsD H a := by
  rcases h with h | ⟨o, h⟩
  · exact .inl ⟨ws, .inl h⟩
  · exact .inl ⟨ws, .inr ⟨o, h⟩⟩
theorem de_get1 {apos cpos : Pos} (hu : X.A.units + 64 < cLine) (ha : DE X W a fa) (hb : DE X W b fb) (m : M1 X a "get" apos b cpos) : DE X W (.Call (.Attribute a "get" apos) [b] [] cpos) (fa >>= fun x => M.lift (asD x) >>= fun kvs => fb >>= fun y => M.lift (gGet1 kvs y)) := by
  refine PE_mono (pe_dget1 (by omega) ha hb m) fun σ H Q ⟨F, P, S, env, rel, post⟩ => ?_
  refine ⟨F, P, S, env, rel, post.step fun dx e1 p1 v S1 H1 rel1 ex1 rp1 => ?_⟩
  obtain ⟨kvs, hk, p1⟩ := (Post.step p1 (R' := fun c e2 => _) fun c e2 q => q).lift
  have := asD_eq hk
  subst this
  obtain ⟨a, ws, rfl, g1, r1⟩ := rp1.dct_inv
  refine ⟨a, rfl, isD_of (rel1.sh.rd g1), F, P, S1, e1, rel1, (p1.step (R' := fun dy e2 => Post X W F P S σ (M.lift (gGet1 kvs dy) e2) _) fun dy e2 q => q).mono ex1 fun dy e2 p2 u S2 H2 rel2 ex2 rp2 => ?_⟩
  obtain ⟨dz, e, q⟩ := p2.lift
  obtain ⟨k, hk, rfl⟩ := Option.map_eq_some_iff.mp e
  have := asK_eq hk
  subst this
  have lk := (r1.mono ex2).look k
  refine ⟨valV ws k, .inl ⟨ws, k, rel2.sh.rd (ex2.rd g1), rp2.key, rfl⟩, ?_⟩
  cases hd : dLook kvs k with
  | none =>
    rw [hd] at q
    rw [lk.2 hd]
    exact q .non S2 H2 rel2 (ex1.trans ex2) .non
  | some d =>
    rw [hd] at q
    obtain ⟨v, h1, h2⟩ := lk.1 d hd
    rw [h1]
    exact q v S2 H2 rel2 (ex1.trans ex2) h2
theorem de_get2 {c : Expr} {fc : M PyData} {apos cpos : Pos} (hu : X.A.units + 64 < cLine) (ha : DE X W a fa) (hb : DE X W b fb) (hc : DE X W c fc) (m : M2 X a "get" apos b c cpos) : DE X W (.Call (.Attribute a "get" apos) [b, c] [] cpos) (fa >>= fun x => M.lift (asD x) >>= fun kvs => fb >>= fun y => fc >>= fun z => M.lift (gGet2 kvs y z)) := by
  refine PE_mono (pe_dget2 (by omega) ha hb hc m) fun σ H Q ⟨F, P, S, env, rel, post⟩ => ?_
  refine ⟨F, P, S, env, rel, post.step fun dx e1 p1 v S1 H1 rel1 ex1 rp1 => ?_⟩
  obtain ⟨kvs, hk, p1⟩ := (Post.step p1 (R' := fun c e2 => _) fun c e2 q => q).lift
  have := asD_eq hk
  subst this
  obtain ⟨a, ws, rfl, g1, r1⟩ := rp1.dct_inv
  refine ⟨a, rfl, isD_of (rel1.sh.rd g1), F, P, S1, e1, rel1, (p1.step (R' := fun dy e2 => Post X W F P S σ ((fc >>= fun z => M.lift (gGet2 kvs dy z)) e2) _) fun dy e2 q => q).mono ex1 fun dy e2 p2 u S2 H2 rel2 ex2 rp2 => ?_⟩
  refine ⟨F, P, S2, e2, rel2, (Post.step p2 (R' := fun dz e3 => Post X W F P S σ (M.lift (gGet2 kvs dy dz) e3) _) fun dz e3 q => q).mono (ex1.trans ex2) fun dw e3 p3 t S3 H3 rel3 ex3 rp3 => ?_⟩
  obtain ⟨dz, e, q⟩ := p3.lift
  obtain ⟨k, hk, rfl⟩ := Option.map_eq_some_iff.mp e
  have := asK_eq hk
  subst this
  have lk := (r1.mono (ex2.trans ex3)).look k
  refine ⟨valV ws k, .inl ⟨ws, k, rel3.sh.rd ((ex2.trans ex3).rd g1), (rp2.mono ex3).key, rfl⟩, ?_⟩
  cases hd : dLook kvs k with
  | none =>
    rw [hd] at q
    rw [lk.2 hd]
    exact q t S3 H3 rel3 ((ex1.trans ex2).trans ex3) rp3
  | some d =>
    rw [hd] at q
    obtain ⟨v, h1, h2⟩ := lk.1 d hd
    rw [h1]
    exact q v S3 H3 rel3 ((ex1.trans ex2).trans ex3) h2
/-! ### k in d -/
def gInK : PyData → PyData → Option PyData
  | k, .dict kvs => (asK k).map fun k => .bool (dLook kvs k).isSome
  | _, _ => none
def gNotInK : PyData → PyData → Option PyData
  | k, .dict kvs => (asK k).map fun k => .bool (!(dLook kvs k).isSome)
  | _, _ => none
theorem look_isSome {K : PySem.W.Frag} {S : Hp} {ws : List (Key × V)} {ds : List (PyData × PyData)} (h : RpKv K S ws ds) (k : Key) : (valV ws k).isSome = (dLook ds k).isSome := by
  cases hd : dLook ds k with
  | none => rw [(h.look k).2 hd]; rfl
  | some d => obtain ⟨v, h1, _⟩ := (h.look k).1 d hd; rw [h1]; rfl
theorem o_inK (hu : X.A.units + 64 < cLine) : Op2 X (compareOp .In) gInK := by
  refine ⟨fun y x H Q => ∃ a o, x = .ref a ∧ DGet H a y o ∧ Q (.bl o.isSome) H, fun pins s σ H y x v u Q I ry rx h => ?_, fun S H y x dy dx dz Q e ry rx eq p => ?_⟩
  · obtain ⟨a, o, rfl, g, q⟩ := h
    cases rx
    exact d_in (by omega) I g ry fun s' I' => ⟨.bl _, H, I', rfl, q⟩
  · unfold gInK at eq
    split at eq
    · obtain ⟨k, hk, rfl⟩ := Option.map_eq_some_iff.mp eq
      have := asK_eq hk
      subst this
      obtain ⟨a, ws, rfl, g1, r1⟩ := rx.dct_inv
      refine ⟨a, valV ws k, rfl, .inl ⟨ws, k, e.rd g1, ry.key, rfl⟩, ?_⟩
      rw [look_isSome r1]
      exact p.bl e
    · cases eq
theorem o_notinK (hu : X.A.units + 64 < cLine) : Op2 X (compareOp .NotIn) gNotInK := by
  refine ⟨fun y x H Q => ∃ a o, x = .ref a ∧ DGet H a y o ∧ Q (.bl (!o.isSome)) H, fun pins s σ H y x v u Q I ry rx h => ?_, fun S H y x dy dx dz Q e ry rx eq p => ?_⟩
  · obtain ⟨a, o, rfl, g, q⟩ := h
    cases rx
    exact d_notIn (by omega) I g ry fun s' I' => ⟨.bl _, H, I', rfl, q⟩
  · unfold gNotInK at eq
    split at eq
    · obtain ⟨k, hk, rfl⟩ := Option.map_eq_some_iff.mp eq
      have := asK_eq hk
      subst this
      obtain ⟨a, ws, rfl, g1, r1⟩ := rx.dct_inv
      refine ⟨a, valV ws k, rfl, .inl ⟨ws, k, e.rd g1, ry.key, rfl⟩, ?_⟩
      rw [look_isSome r1]
      exact p.bl e
    · cases eq
def gInA : PyData → PyData → Option PyData := orG gIn gInK
def gNotInA : PyData → PyData → Option PyData := orG gNotIn gNotInK
theorem o_inA (hu : X.A.units + 65 < cLine) : Op2 X (compareOp .In) gInA := (o_in hu).or (o_inK (by omega))
theorem o_notinA (hu : X.A.units + 65 < cLine) : Op2 X (compareOp .NotIn) gNotInA := (o_notin hu).or (o_notinK (by omega))
end
end DL
/-! DLN: how long a repr is -/
namespace DL
open PySem PySem.Builtin L2 PyProof.Rows
/-- a text: its length, its codes -/
def cq (m : Nat) (x : Str) : Prop := x.length ≤ m ∧ ∀ c ∈ x.cps.toList, c < 0x110000
theorem cq.mono {m m' : Nat} {x : Str} (h : cq m x) (e : m ≤ m') : cq m' x := ⟨Nat.le_trans h.1 e, h.2⟩
theorem cq.app {m m' : Nat} {x y : Str} (h : cq m x) (g : cq m' y) : cq (m + m') (x ++ y) := by
  refine ⟨by rw [append_length]; exact Nat.add_le_add h.1 g.1, fun c hc => ?_⟩
  rw [append_cps, List.mem_append] at hc
  exact hc.elim (h.2 c) (g.2 c)
theorem cq.tx {m : Nat} {x : Str} (h : cq m x) (e : m ≤ sizeLine) : TxOk x := ⟨Nat.le_trans h.1 e, strOk_of h.2⟩
theorem cq_join {m : Nat} : ∀ ts : List Str, (∀ t ∈ ts, cq m t) → cq (ts.length * (m + 2)) (Str.join ", " ts)
  | [], _ => ⟨by simp [Str.join]; decide, by simp [Str.join]; decide⟩
  | [x], h => (h x List.mem_cons_self).mono (by simp)
  | x :: y :: r, h => by
    have a := h x List.mem_cons_self
    have b := cq_join (y :: r) fun t ht => h t (List.mem_cons_of_mem _ ht)
    have s : cq 2 (", " : Str) := ⟨by decide, by decide⟩
    have e : Str.join ", " (x :: y :: r) = x ++ ", " ++ Str.join ", " (y :: r) := rfl
    rw [e]
    refine ((a.app s).app b).mono ?_
    rw [List.length_cons (as := y :: r), Nat.add_mul]
    omega
theorem cq_from {m : Nat} : ∀ (ts : List Str) (k n : Nat) (acc : Str), cq n acc → (∀ t ∈ ts, cq m t) → cq (n + ts.length * (m + 2)) (textFrom k acc ts)
  | [], k, n, acc, h, _ => by simpa [textFrom] using h
  | t :: ts, k, n, acc, h, g => by
    have s : cq 2 ((if k > 0 then ", " else "" : String) : Str) := by
      split
      · exact ⟨by decide, by decide⟩
      · exact ⟨by decide, by decide⟩
    have := cq_from ts (k + 1) (n + 2 + m) _ ((h.app s).app (g t List.mem_cons_self)) fun t ht => g t (List.mem_cons_of_mem _ ht)
    refine cq.mono this ?_
    rw [List.length_cons, Nat.add_mul]
    omega
/-- what repr tells of data -/
structure rq (n m : Nat) (d : PyData) : Prop where
  nd : noDict d = true
  sh : d.showable = true
  dp : d.depth ≤ n
  tx : cq m d.shown
theorem rq.mono {n m n' m' : Nat} {d : PyData} (h : rq n m d) (e : n ≤ n') (e' : m ≤ m') : rq n' m' d := ⟨h.nd, h.sh, Nat.le_trans h.dp e, h.tx.mono e'⟩
theorem rq.ok {n m : Nat} {d : PyData} (h : rq n m d) (e : n ≤ 60) (e' : m ≤ 16000000) : reprOk d = true := by
  simp only [reprOk, Bool.and_eq_true, decide_eq_true_eq]
  exact ⟨⟨⟨h.nd, h.sh⟩, Nat.le_trans h.dp e⟩, h.tx.tx (Nat.le_trans e' (by decide))⟩
theorem rq.repr {n m : Nat} {d : PyData} (h : rq n m d) (e : n ≤ 60) (e' : m ≤ 16000000) : gReprA [d] = some (.str d.shown) := if_pos (h.ok e e')
theorem rqs {n m : Nat} : ∀ {ds : List PyData}, (∀ d ∈ ds, rq n m d) → noDicts ds = true ∧ PyData.showableAll ds = true ∧ PyData.depthAll ds ≤ n ∧ (∀ t ∈ PyData.shownAll ds, cq m t) ∧ (PyData.shownAll ds).length = ds.length
  | [], _ => ⟨rfl, by simp [PyData.showableAll], by simp [PyData.depthAll], by simp [PyData.shownAll], by simp [PyData.shownAll]⟩
  | d :: ds, h => by
    have a := h d List.mem_cons_self
    obtain ⟨b1, b2, b3, b4, b5⟩ := rqs fun x hx => h x (List.mem_cons_of_mem _ hx)
    refine ⟨by simp [noDicts, a.nd, b1], by simp [PyData.showableAll, a.sh, b2], ?_, ?_, by simp [PyData.shownAll, b5]⟩
    · simp only [PyData.depthAll]; exact Nat.max_le.mpr ⟨a.dp, b3⟩
    · intro t ht
      simp only [PyData.shownAll, List.mem_cons] at ht
      rcases ht with rfl | ht
      · exact a.tx
      · exact b4 t ht
theorem rq_tuple {n m k : Nat} {ds : List PyData} (h : ∀ d ∈ ds, rq n m d) (hk : ds.length ≤ k) : rq (n + 1) (k * (m + 2) + 3) (.tuple ds) := by
  obtain ⟨b1, b2, b3, b4, b5⟩ := rqs h
  refine ⟨by simp [noDict, b1], by simp [PyData.showable, b2], by simp only [PyData.depth]; omega, ?_⟩
  have p : cq 1 ("(" : Str) := ⟨by decide, by decide⟩
  have q : cq 2 ((if (PyData.shownAll ds).length == 1 then ",)" else ")" : String) : Str) := by
    split
    · exact ⟨by decide, by decide⟩
    · exact ⟨by decide, by decide⟩
  have := (p.app (cq_join _ b4)).app q
  rw [b5] at this
  have e : ds.length * (m + 2) ≤ k * (m + 2) := Nat.mul_le_mul_right _ hk
  have sh : (PyData.tuple ds).shown = tupleText (PyData.shownAll ds) := by simp [PyData.shown]
  rw [sh]
  unfold tupleText
  rw [b5] at *
  exact cq.mono this (by omega)
theorem rq_list {n m k : Nat} {ds : List PyData} (h : ∀ d ∈ ds, rq n m d) (hk : ds.length ≤ k) : rq (n + 1) (k * (m + 2) + 3) (.list ds) := by
  obtain ⟨b1, b2, b3, b4, b5⟩ := rqs h
  refine ⟨by simp [noDict, b1], by simp [PyData.showable, b2], by simp only [PyData.depth]; omega, ?_⟩
  have p : cq 1 ("[" : Str) := ⟨by decide, by decide⟩
  have q : cq 1 ("]" : Str) := ⟨by decide, by decide⟩
  have := (cq_from _ 0 1 _ p b4).app q
  rw [b5] at this
  have e : ds.length * (m + 2) ≤ k * (m + 2) := Nat.mul_le_mul_right _ hk
  have sh : (PyData.list ds).shown = listText (PyData.shownAll ds) := by simp [PyData.shown]
  rw [sh]
  exact cq.mono this (by omega)
theorem rq_none {n m : Nat} (h : 4 ≤ m) : rq n m .none := ⟨rfl, rfl, by simp [PyData.depth], cq.mono (m := 4) ⟨by decide, by decide⟩ h⟩
theorem rq_bool {n m : Nat} (b : Bool) (h : 5 ≤ m) : rq n m (.bool b) := ⟨rfl, rfl, by simp [PyData.depth], cq.mono (m := 5) (by cases b <;> exact ⟨by decide, by decide⟩) h⟩
/-- plain signs: tab, line feed, blank to ~ -/
def plainC (c : Nat) : Bool := c == 9 || c == 10 || (decide (32 ≤ c) && decide (c ≤ 126))
def plainS (x : Str) : Bool := x.cps.toList.all plainC
theorem repr_plain : ((9 :: 10 :: (List.range 95).map (· + 32)).all fun c => [34, 39].all fun q => decide ((Str.reprChar q c).length ≤ 2) && (Str.reprChar q c).all fun z => decide (z < 0x110000)) = true := by decide +kernel
theorem repr_char {q c : Nat} (hq : q = 34 ∨ q = 39) (hc : plainC c = true) : (Str.reprChar q c).length ≤ 2 ∧ ∀ z ∈ Str.reprChar q c, z < 0x110000 := by
  have hm : c ∈ (9 :: 10 :: (List.range 95).map (· + 32)) := by
    simp only [plainC, Bool.or_eq_true, Bool.and_eq_true, beq_iff_eq, decide_eq_true_eq] at hc
    simp only [List.mem_cons, List.mem_map, List.mem_range]
    rcases hc with (h | h) | h
    · exact .inl h
    · exact .inr (.inl h)
    · exact .inr (.inr ⟨c - 32, by omega, by omega⟩)
  have := List.all_eq_true.mp (List.all_eq_true.mp repr_plain c hm) q (by rcases hq with rfl | rfl <;> simp)
  simp only [Bool.and_eq_true, decide_eq_true_eq, List.all_eq_true] at this
  exact this
theorem fold_repr {q : Nat} (hq : q = 34 ∨ q = 39) : ∀ (l : List Nat) (acc : Array Nat), (∀ c ∈ l, plainC c = true) → (∀ c ∈ acc.toList, c < 0x110000) →
    (l.foldl (fun out c => out ++ (Str.reprChar q c).toArray) acc).size ≤ acc.size + 2 * l.length ∧ ∀ c ∈ (l.foldl (fun out c => out ++ (Str.reprChar q c).toArray) acc).toList, c < 0x110000
  | [], acc, _, h => ⟨by simp, h⟩
  | c :: l, acc, hl, h => by
    have a := repr_char hq (hl c List.mem_cons_self)
    have b := fold_repr hq l (acc ++ (Str.reprChar q c).toArray) (fun x hx => hl x (List.mem_cons_of_mem _ hx)) fun z hz => by
      simp only [Array.toList_append, List.mem_append] at hz
      exact hz.elim (h z) (a.2 z)
    refine ⟨?_, b.2⟩
    have := b.1
    simp only [Array.size_append, List.size_toArray] at this
    rw [List.foldl_cons, List.length_cons]
    omega
theorem rq_str {n k : Nat} {x : Str} (h : plainS x = true) (hk : x.length ≤ k) : rq n (2 * k + 2) (.str x) := by
  have hq : reprQuote x = 34 ∨ reprQuote x = 39 := by unfold reprQuote; split <;> simp
  have hq2 : reprQuote x < 0x110000 := by rcases hq with e | e <;> rw [e] <;> decide
  have f := fold_repr hq x.cps.toList #[reprQuote x] (List.all_eq_true.mp h) (by simp [hq2])
  refine ⟨rfl, rfl, by simp [PyData.depth], ?_⟩
  have sh : (PyData.str x).shown = reprText x := by simp [PyData.shown]
  rw [sh]
  unfold reprText
  rw [← Array.foldl_toList]
  have hl : x.cps.toList.length ≤ k := by rw [← length_cps]; exact hk
  refine ⟨?_, fun c hc => ?_⟩
  · have := f.1
    have h1 : (#[reprQuote x] : Array Nat).size = 1 := rfl
    rw [h1] at this
    simp only [Str.length, Array.size_push]
    omega
  · simp only [Array.toList_push, List.mem_append, List.mem_singleton] at hc
    rcases hc with hc | rfl
    · exact f.2 c hc
    · exact hq2
/-! ### ints -/
theorem rq_int {n m : Nat} {i : Int} (h : decide (i.natAbs.log2 < 1920) = true) (ht : cq m (toString i : String)) : rq n m (.int i) := ⟨rfl, by simpa [PyData.showable] using h, by simp [PyData.depth], ht⟩
theorem cq_int {i : Int} {k : Nat} (hk : 0 < k) (h : i.natAbs < 10 ^ k) : cq (k + 1) (toString i : String) := by
  have e := int_text_length_le10 (k := k) hk h
  refine ⟨by rw [PySem.ofString_length]; omega, ?_⟩
  have t : ∀ s : String, ∀ c ∈ (Str.ofString s).cps.toList, c < 0x110000 := by
    intro s c hc
    have : c ∈ (s.toList.map Char.toNat) := by rw [Str.ofString_eq_toList] at hc; simpa using hc
    obtain ⟨ch, _, rfl⟩ := List.mem_map.mp this
    have := ch.valid
    show ch.toNat < 0x110000
    rcases this with h | ⟨_, h⟩
    · exact Nat.lt_trans h (by decide)
    · exact h
  exact t _
theorem rq_int10 {n m k : Nat} {i : Int} (hk : 0 < k) (hk2 : k ≤ 500) (h : i.natAbs < 10 ^ k) (hm : k + 1 ≤ m) : rq n m (.int i) := by
  refine rq_int (decide_eq_true ?_) (cq.mono (cq_int hk h) hm)
  by_cases z : i.natAbs = 0
  · rw [z]; decide
  · refine (Nat.log2_lt z).mpr (Nat.lt_of_lt_of_le h ?_)
    refine Nat.le_trans (Nat.pow_le_pow_right (by decide) hk2) ?_
    decide +kernel
theorem rq_int9 {n m : Nat} {i : Int} (h0 : -9999 ≤ i) (h1 : i ≤ 9999) (hm : 5 ≤ m) : rq n m (.int i) := rq_int10 (k := 4) (by decide) (by decide) (by omega) hm
end DL
/-! DLO: dicts of pairs whose keys are unlike; slices -/
namespace DL
open PySem L2
theorem dPutG_new {kvs : List (Key × PyData)} {k : Key} {d : PyData} (h : k ∉ kvs.map (·.1)) : dPutG kvs k d = kvs ++ [(k, d)] := by
  unfold dPutG
  rw [if_neg]
  intro hc
  obtain ⟨p, hp, e⟩ := List.any_eq_true.mp hc
  exact h (List.mem_map.mpr ⟨p, hp, by simpa using e⟩)
theorem dMerge_nodup : ∀ (more acc : List (Key × PyData)), ((acc ++ more).map (·.1)).Nodup → dMerge acc more = acc ++ more
  | [], acc, _ => by simp [dMerge]
  | p :: more, acc, h => by
    have h1 : p.1 ∉ acc.map (·.1) := by
      rw [List.map_append, List.nodup_append] at h
      intro hc
      exact h.2.2 _ hc _ (by simp) rfl
    show dMerge (dPutG acc p.1 p.2) more = _
    rw [dPutG_new h1, dMerge_nodup more (acc ++ [(p.1, p.2)]) (by simpa using h)]
    simp
theorem dLook_mem : ∀ {kvs : List (Key × PyData)} {k : Key} {d : PyData}, (kvs.map (·.1)).Nodup → (k, d) ∈ kvs → dLook (mkD kvs) k = some d
  | [], _, _, _, h => by cases h
  | (k', d') :: kvs, k, d, hn, h => by
    rw [List.map_cons, List.nodup_cons] at hn
    by_cases e : k' = k
    · subst e
      rcases List.mem_cons.mp h with h | h
      · cases h
        simp [dLook, mkD, List.find?_cons, asK_kD]
      · exact absurd (List.mem_map.mpr ⟨(k', d), h, rfl⟩) hn.1
    · have h' : (k, d) ∈ kvs := by
        rcases List.mem_cons.mp h with h | h
        · cases h; exact absurd rfl e
        · exact h
      have ih := dLook_mem hn.2 h'
      have ne : ¬ (asK (kD k') = some k) := by rw [asK_kD]; exact fun z => e (Option.some.inj z)
      unfold dLook mkD at ih ⊢
      rw [List.map_cons, List.find?_cons_of_neg (by simpa using ne)]
      exact ih
theorem dLook_none : ∀ {kvs : List (Key × PyData)} {k : Key}, k ∉ kvs.map (·.1) → dLook (mkD kvs) k = none
  | [], _, _ => rfl
  | (k', d') :: kvs, k, hn => by
    rw [List.map_cons, List.mem_cons, not_or] at hn
    have ih := dLook_none hn.2
    have ne : ¬ (asK (kD k') = some k) := by rw [asK_kD]; exact fun z => hn.1 (Option.some.inj z).symm
    unfold dLook mkD at ih ⊢
    rw [List.map_cons, List.find?_cons_of_neg (by simpa using ne)]
    exact ih
/-- pairs with texts as keys -/
def prT : PyData → Key × PyData
  | .tuple [.str n, v] => (.inr n, v)
  | d => (.inl 0, d)
theorem pairsOf_strs : ∀ {ds : List PyData}, (∀ d ∈ ds, ∃ n v, d = .tuple [.str n, v]) → pairsOf ds = some (ds.map prT)
  | [], _ => rfl
  | d :: ds, h => by
    obtain ⟨n, v, rfl⟩ := h d List.mem_cons_self
    have ih := pairsOf_strs fun x hx => h x (List.mem_cons_of_mem _ hx)
    simp [pairsOf, asK, ih, prT]
theorem dict_strs {ds : List PyData} (h : ∀ d ∈ ds, ∃ n v, d = .tuple [.str n, v]) (hn : (ds.map fun d => (prT d).1).Nodup) : gDictOf [.tuple ds] = some (.dict (mkD (ds.map prT))) ∧ gDictOf [.list ds] = some (.dict (mkD (ds.map prT))) ∧
    (∀ n v, .tuple [.str n, v] ∈ ds → dLook (mkD (ds.map prT)) (.inr n) = some v) ∧ ∀ n, (∀ v, .tuple [.str n, v] ∉ ds) → dLook (mkD (ds.map prT)) (.inr n) = none := by
  have hk : ((ds.map prT).map (·.1)).Nodup := by rw [List.map_map]; exact hn
  have e : dMerge [] (ds.map prT) = ds.map prT := by rw [dMerge_nodup _ _ (by simpa using hk)]; rfl
  refine ⟨by simp only [gDictOf, pairsOf_strs h, Option.map_some, e], by simp only [gDictOf, pairsOf_strs h, Option.map_some, e], fun n v hm => dLook_mem hk (List.mem_map.mpr ⟨_, hm, rfl⟩), fun n hm => dLook_none fun hc => ?_⟩
  rw [List.map_map] at hc
  obtain ⟨d, hd, e⟩ := List.mem_map.mp hc
  obtain ⟨n', v, rfl⟩ := h d hd
  simp [prT] at e
  subst e
  exact hm v hd
/-! ### slices at natural places -/
theorem cut_take (ds : List PyData) (k : Nat) : cutD ds none (some (k : Int)) = ds.take k := by
  unfold cutD
  rw [HT.sIx_none, HT.sIx_nat]
  simp only [List.drop_zero, Nat.sub_zero]
  by_cases h : k ≤ ds.length
  · rw [Nat.min_eq_left h]
  · rw [Nat.min_eq_right (by omega), List.take_length, List.take_of_length_le (by omega)]
theorem cut_drop (ds : List PyData) (k : Nat) : cutD ds (some (k : Int)) none = ds.drop k := by
  unfold cutD
  rw [HT.sIx_none, HT.sIx_nat]
  by_cases h : k ≤ ds.length
  · rw [Nat.min_eq_left h, List.take_of_length_le (by simp)]
  · rw [Nat.min_eq_right (by omega), List.drop_length, List.drop_of_length_le (by omega)]
    simp
theorem cut_takeI (ds : List PyData) {k : Int} (h : 0 ≤ k) : cutD ds none (some k) = ds.take k.toNat := by
  obtain ⟨n, rfl⟩ := Int.eq_ofNat_of_zero_le h
  exact cut_take ds n
theorem cut_dropI (ds : List PyData) {k : Int} (h : 0 ≤ k) : cutD ds (some k) none = ds.drop k.toNat := by
  obtain ⟨n, rfl⟩ := Int.eq_ofNat_of_zero_le h
  exact cut_drop ds n
theorem atI_get {α : Type} {xs : List α} {k : Int} (h0 : 0 ≤ k) (h1 : k < xs.length) : ∃ (h : k.toNat < xs.length), L2.atI xs k = some xs[k.toNat] := by
  have h : k.toNat < xs.length := by omega
  refine ⟨h, ?_⟩
  simp [L2.atI, L2.ixN, h0, h1, h]
theorem take_set_drop {α : Type} : ∀ (xs : List α) (k : Nat) (y : α), k < xs.length → xs.take k ++ [y] ++ xs.drop (k + 1) = xs.set k y
  | [], _, _, h => by simp at h
  | x :: xs, 0, y, _ => by simp
  | x :: xs, k + 1, y, h => by
    have := take_set_drop xs k y (by simpa using h)
    simp only [List.take_succ_cons, List.drop_succ_cons, List.cons_append, List.set_cons_succ]
    rw [this]
theorem take_drop_erase {α : Type} : ∀ (xs : List α) (k : Nat), xs.take k ++ xs.drop (k + 1) = xs.eraseIdx k
  | [], k => by simp
  | x :: xs, 0 => by simp
  | x :: xs, k + 1 => by simp [take_drop_erase xs k]
end DL
/-! DLP: methods of texts, str(), int(), calls through a slot, replace -/
namespace DL
open PySem PySem.Spec L2 PyProof.Rows
section
variable {X : Cx} {W : WX}
def asS : PyData → Option Str
  | .str x => some x
  | _ => none
theorem asS_eq {d : PyData} {x : Str} (h : asS d = some x) : d = .str x := by
  cases d <;> simp [asS] at h
  subst h; rfl
/-- a method of texts over data -/
def MtD (X : Cx) (id : String) (g : Str → List PyData → Option PyData) : Prop :=
  ∃ r, MtR X id r ∧ ∀ S H a xs ds dz Q, Ex S H → TxOk a → RpAll X.K S xs ds → g a ds = some dz → Pure X.K S H dz Q → r (.str a) xs H Q
variable {o e : Expr} {fo fe : M PyData} {apos pos : Pos}
theorem de_m0 {id : String} {name : Str} {g : Str → List PyData → Option PyData} (slot : Slot "str" name id) (ty : typeOf (.builtin id) = pure (.type "method_descriptor")) (m : MtD X id g) (ho : DE X W o fo)
    (hbase : attributeBase o name X.env (eval o X.env) = eval o X.env := by rfl) (hline : (apos.endLine == pos.line) = true := by rfl) :
    DE X W (.Call (.Attribute o name apos) [] [] pos) (fo >>= fun x => M.lift (asS x) >>= fun a => M.lift (g a [])) := by
  obtain ⟨r, h1, h2⟩ := m
  refine PE_mono (pe_m0 slot ty h1 ho hbase hline) fun σ H Q ⟨F, P, S, env, rel, post⟩ => ?_
  refine ⟨F, P, S, env, rel, post.step fun dx e1 p1 v S1 H1 rel1 ex1 rp1 => ?_⟩
  obtain ⟨a, ha, p2⟩ := (Post.step p1 (R' := fun c e2 => _) fun c e2 q => q).lift
  have := asS_eq ha
  subst this
  obtain ⟨rfl, ok⟩ := rp1.str_inv
  obtain ⟨dz, ez, q⟩ := p2.lift
  exact ⟨⟨a, rfl⟩, h2 S1 H1 a [] [] dz Q rel1.sh ok .nil ez fun w S3 H3 gr rw => q w S3 H3 (rel1.grow gr) (ex1.trans gr.ss) rw⟩
theorem de_m1 {id : String} {name : Str} {g : Str → List PyData → Option PyData} (slot : Slot "str" name id) (ty : typeOf (.builtin id) = pure (.type "method_descriptor")) (m : MtD X id g) (ho : DE X W o fo) (he : DE X W e fe)
    (hs : starEach [e] X.env = [(false, eval e X.env)] := by rfl) (hbase : attributeBase o name X.env (eval o X.env) = eval o X.env := by rfl) (hline : (apos.endLine == pos.line) = true := by rfl) :
    DE X W (.Call (.Attribute o name apos) [e] [] pos) (fo >>= fun x => M.lift (asS x) >>= fun a => fe >>= fun y => M.lift (g a [y])) := by
  obtain ⟨r, h1, h2⟩ := m
  refine PE_mono (pe_m1 slot ty h1 ho he hs hbase hline) fun σ H Q ⟨F, P, S, env, rel, post⟩ => ?_
  refine ⟨F, P, S, env, rel, post.step fun dx e1 p1 v S1 H1 rel1 ex1 rp1 => ?_⟩
  obtain ⟨a, ha, p2⟩ := (Post.step p1 (R' := fun c e2 => _) fun c e2 q => q).lift
  have := asS_eq ha
  subst this
  obtain ⟨rfl, ok⟩ := rp1.str_inv
  refine ⟨⟨a, rfl⟩, F, P, S1, e1, rel1, (p2.step (R' := fun dy e2 => Post X W F P S σ (M.lift (g a [dy]) e2) _) fun dy e2 q => q).mono ex1 fun dy e2 p3 u S2 H2 rel2 ex2 rp2 => ?_⟩
  obtain ⟨dz, ez, q⟩ := p3.lift
  exact h2 S2 H2 a [u] [dy] dz Q rel2.sh ok (.one rp2) ez fun w S3 H3 gr rw => q w S3 H3 (rel2.grow gr) ((ex1.trans ex2).trans gr.ss) rw
def strsD (ys : List Str) : Option PyData := if ys.length ≤ sizeLine ∧ (ys.all fun y => decide (TxOk y)) = true then some (.list (ys.map .str)) else none
theorem RpAll.ofStrs {K : PySem.W.Frag} {S : Hp} : ∀ {ys : List Str}, (∀ y ∈ ys, TxOk y) → RpAll K S (ys.map V.str) (ys.map .str)
  | [], _ => .nil
  | y :: ys, h => .cons (.str y (h y List.mem_cons_self)) (RpAll.ofStrs fun z hz => h z (List.mem_cons_of_mem _ hz))
def g_split (a : Str) : List PyData → Option PyData
  | [.str b] => if (b.length == 0) = false ∧ a.length + 2 ≤ sizeLine then strsD (Txt.split a b) else none
  | _ => none
theorem mt_split_ok : MtD X "str.split" g_split := by
  refine ⟨_, mt_split, fun S H a xs ds dz Q e ok rx eq p => ?_⟩
  unfold g_split at eq
  split at eq
  · split at eq
    · rename_i b h
      unfold strsD at eq
      split at eq
      · rename_i h2
        cases eq
        obtain ⟨v, rfl, r⟩ := rx.one_inv
        obtain ⟨rfl, _⟩ := r.str_inv
        exact ⟨a, b, rfl, rfl, h.1, h.2, p.lst e (RpAll.ofStrs fun y hy => by simpa using List.all_eq_true.mp h2.2 y hy)⟩
      · cases eq
    · cases eq
  · cases eq
def g_endswith (a : Str) : List PyData → Option PyData
  | [.str b] => some (.bool (Txt.endswith a b))
  | _ => none
theorem mt_endswith_ok : MtD X "str.endswith" g_endswith := by
  refine ⟨_, mt_endswith, fun S H a xs ds dz Q e ok rx eq p => ?_⟩
  unfold g_endswith at eq
  split at eq
  · cases eq
    obtain ⟨v, rfl, r⟩ := rx.one_inv
    obtain ⟨rfl, _⟩ := r.str_inv
    exact ⟨a, _, rfl, rfl, p.bl e⟩
  · cases eq
def g_isdigit (a : Str) : List PyData → Option PyData
  | [] => some (.bool (Txt.isdigit a))
  | _ => none
theorem mt_isdigit_ok : MtD X "str.isdigit" g_isdigit := by
  refine ⟨_, mt_isdigit, fun S H a xs ds dz Q e ok rx eq p => ?_⟩
  unfold g_isdigit at eq
  split at eq
  · cases eq
    cases rx
    exact ⟨a, rfl, rfl, trivial, p.bl e⟩
  · cases eq
def g_upper (a : Str) : List PyData → Option PyData
  | [] => if a.length ≤ 5592405 ∧ TxOk (Txt.upper a) then some (.str (Txt.upper a)) else none
  | _ => none
theorem mt_upper_ok : MtD X "str.upper" g_upper := by
  refine ⟨_, mt_upper, fun S H a xs ds dz Q e ok rx eq p => ?_⟩
  unfold g_upper at eq
  split at eq
  · split at eq
    · rename_i h
      cases eq
      cases rx
      exact ⟨a, rfl, rfl, h.1, p.str e h.2⟩
    · cases eq
  · cases eq
def g_join (a : Str) : List PyData → Option PyData
  | [.list ds] => match strsOf ds with
    | some ys => if (ys.map (·.length)).sum + ys.length * a.length ≤ 16777216 ∧ TxOk (Txt.join a ys) then some (.str (Txt.join a ys)) else none
    | none => none
  | [.tuple ds] => match strsOf ds with
    | some ys => if (ys.map (·.length)).sum + ys.length * a.length ≤ 16777216 ∧ TxOk (Txt.join a ys) then some (.str (Txt.join a ys)) else none
    | none => none
  | _ => none
theorem mt_join_ok : MtD X "str.join" g_join := by
  refine ⟨_, mt_join, fun S H a xs ds dz Q e ok rx eq p => ?_⟩
  unfold g_join at eq
  split at eq
  · split at eq
    · split at eq
      · rename_i ys hy h
        cases eq
        obtain ⟨v, rfl, r⟩ := rx.one_inv
        obtain ⟨l, vs, rfl, g1, r1⟩ := r.lst_inv
        rw [r1.strs hy] at g1
        exact ⟨a, l, ys, rfl, rfl, .inl (e.l (SqL.of g1)), h.1, p.str e h.2⟩
      · cases eq
    · cases eq
  · split at eq
    · split at eq
      · rename_i ys hy h
        cases eq
        obtain ⟨v, rfl, r⟩ := rx.one_inv
        obtain ⟨l, vs, rfl, g1, r1⟩ := r.tup_inv
        rw [r1.strs hy] at g1
        exact ⟨a, l, ys, rfl, rfl, .inr (e.t g1), h.1, p.str e h.2⟩
      · cases eq
    · cases eq
  · cases eq
/-! ### str(x), int(x) -/
def gStr : List PyData → Option PyData
  | [.int i] => if i.natAbs.log2 < 1920 then some (.str (Str.ofString (toString i))) else none
  | [.str x] => some (.str x)
  | _ => none
theorem c_str : CallD X (.type "str") gStr := by
  refine ⟨_, CallR_or call_str_int SkE.call_str_str, fun S H xs ds dz Q e rx eq p => ?_⟩
  unfold gStr at eq
  split at eq
  · split at eq
    · rename_i i h
      cases eq
      obtain ⟨v, rfl, r⟩ := rx.one_inv
      rw [r.int_inv]
      exact .inl ⟨i, rfl, h, p.str e (TxOk.ofString (int_text_fits h))⟩
    · cases eq
  · cases eq
    obtain ⟨v, rfl, r⟩ := rx.one_inv
    obtain ⟨rfl, ok⟩ := r.str_inv
    exact .inr ⟨_, rfl, p.str e ok⟩
  · cases eq
def gIntS : List PyData → Option PyData
  | [.str x] => if x.length ≤ 640 then (PySem.intText? x).map .int else none
  | _ => none
theorem c_intS : CallD X (.type "int") gIntS := by
  refine ⟨_, call_int_str, fun S H xs ds dz Q e rx eq p => ?_⟩
  unfold gIntS at eq
  split at eq
  · split at eq
    · rename_i x h
      obtain ⟨n, hn, rfl⟩ := Option.map_eq_some_iff.mp eq
      obtain ⟨v, rfl, r⟩ := rx.one_inv
      obtain ⟨rfl, ok⟩ := r.str_inv
      exact ⟨x, n, rfl, hn, h, p.int e⟩
    · cases eq
  · cases eq
def gIntA : List PyData → Option PyData := orG1 gInt gIntS
theorem c_intA : CallD X (.type "int") gIntA := c_int.or c_intS
/-! ### is True -/
def gIsB : PyData → PyData → Option PyData
  | .bool a, .bool b => some (.bool (decide (a = b)))
  | _, _ => none
def gNotB : PyData → PyData → Option PyData
  | .bool a, .bool b => some (.bool (!decide (a = b)))
  | _, _ => none
theorem o_isB : Op2 X (compareOp .Is) gIsB := by
  refine ⟨_, op_isBl, fun S H x y dx dy dz Q e rx ry eq p => ?_⟩
  unfold gIsB at eq
  split at eq
  · cases eq
    rw [rx.bl_inv, ry.bl_inv]
    exact ⟨_, _, rfl, rfl, p.bl e⟩
  · cases eq
theorem o_notB : Op2 X (compareOp .IsNot) gNotB := by
  refine ⟨_, op_notBl, fun S H x y dx dy dz Q e rx ry eq p => ?_⟩
  unfold gNotB at eq
  split at eq
  · cases eq
    rw [rx.bl_inv, ry.bl_inv]
    exact ⟨_, _, rfl, rfl, p.bl e⟩
  · cases eq
/-! ### f(..), f a slot that holds a def by name -/
def M.isFn (i : Nat) (y : Str) : M Unit := fun env => match env[i]? with
  | some (some (.fn z)) => if z = y then .ok () env else .bad
  | _ => .bad
theorem de_callV {k i : Nat} {x y : Str} {p : Pos} {es : List Expr} {g : List PyData → Res PyData} {fa : M (List PyData)} (G : FnIs X.prog X.w X.K X.mg X.base y k (spA X.K X.mg g)) (hr : RoomG k X.A) (cx : Ctx X W) (ha : DA X W (e :: es) fa) (hN : X.N[i]? = some x := by rfl)
    (hv : Vis X.env.scope x := by first | exact Or.inl rfl | exact Or.inr (Or.inl rfl) | exact Or.inr (Or.inr rfl)) (hdb : (x == ("__debug__" : Str)) = false := by decide) (hcd : (x == ("__classdict__" : Str)) = false := by decide)
    (he : starEach (e :: es) X.env = (false, eval e X.env) :: starEach es X.env := by rfl) (hpl : (backTo pos (starEach es X.env)).any (·.1) = false := by rfl) :
    DE X W (.Call (.Name x p) (e :: es) [] pos) (M.isFn i y >>= fun _ => fa >>= fun ds => M.ofRes (g ds)) := by
  obtain ⟨f, fd, ps, hm, hk, hb, Fn⟩ := G.ex
  refine ⟨fun pins s σ H Q I h => ?_⟩
  obtain ⟨F, P, S, env, rel, post⟩ := h
  rw [bind_run] at post
  unfold M.isFn at post
  split at post
  · rename_i z hz
    split at post
    · rename_i hzy
      subst hzy
      obtain ⟨a, h1, h2⟩ := rel.ats i _ hz
      rw [hm] at h2; cases h2
      refine wpAny_Call_Name_kw (thn ((pe_var (pos := p) hN hv hdb hcd).run pins s σ H (fun v H1 => v = .ref f ∧ H1 = H) I ⟨.ref f, h1, rfl, rfl⟩) fun u s1 ⟨v, H1, I1, r1, q1⟩ => ?_)
      obtain ⟨rfl, rfl⟩ := q1
      cases r1
      have rd : tDA X W fa σ H1 fun vs H2 => spA X.K X.mg g (vs ++ []) H2 Q (WE W σ) := callA_read ⟨F, P, S, env, rel, post⟩
      refine PySem.W.callWith_K (h₀ := X.base) I.ok.mod.kin hk (thn (ha.run pos pins s1 σ _ _ I1 rd) fun us s2 ⟨vs, H2, I2, r, q⟩ => ⟨I2.kIn, ?_⟩) he hpl
      exact call_fnG Fn hr hb .nil (passAt cx.tk σ) I2 r q
    · exact post.elim
  · exact post.elim
/-! ### x = x.replace(a, b) behind a test that makes a text -/
def PTT (X : Cx) (c : Expr) (t : TT) : Prop := ∀ (pins : List (Addr × Obj)) (s : Shared) (σ : L2.St) (H : Hp) (Q : Bool → Hp → Prop), Inv X pins σ H s → t σ H Q →
  wpAny (model X.prog X.w) X.A (isTrue c X.env (eval c X.env)) (fun b s' => 1 ≤ s'.toks ∧ TP X pins σ Q b s') X.xe s
theorem ptt_cmp {op : CmpOp} {r : R2} {w : Str} {j : Nat} {b : Expr} {tb : TE} {p1 : Pos} (ho : OpR X (compareOp op) r) (hb : PE X b tb) (hm : behindInMarks op b = false) : PTT X (.Compare (.Constant (.str w) j p1) [op] [b] pos) (tTest (tOp r (tC (.str w)) tb)) := by
  intro pins s σ H Q I h
  refine wpAny_isTrue_Compare1 (Calls.Constant_str ?_) hm
  have I1 : Inv X pins σ H { s with toks := s.toks + 1 } := I.tok _
  refine wpAny_mono (PySem.wpAny_toks (hb.run pins { s with toks := s.toks + 1 } σ H _ I1 h)) (fun u s2 ⟨hk, y, H2, I2, r2, q2⟩ => ?_) fun _ _ z => z.2
  refine wpAny_mono (PySem.wpAny_toks (ho pins s2 σ H2 (.str w) y _ u _ I2 ⟨_, rfl⟩ r2 q2)) (fun c s3 ⟨hk2, z, H3, I3, r3, kk, e, q3⟩ => ?_) fun _ _ z => z.2
  subst e
  cases r3
  have hk' : s.toks + 1 ≤ s2.toks := hk
  exact wpAny_truthy_bool ⟨by omega, H3, I3, q3⟩
/-- c1 and c2, c2 as above -/
theorem ps_ifT {c1 c2 : Expr} {pb ps : Pos} {tA tB : TT} {sts : List Stmt} {u : TS} (h1 : PT X c1 tA) (h2 : PTT X c2 tB) (hs : PSsT X sts u) : PS X (.If (.BoolOp .And [c1, c2] pb) sts [] ps) (tIfS (tAnd tA tB) u tNext) := by
  refine ⟨fun pins s σ H D I h => wpAny_If ?_⟩
  refine isTrue_and (thn (h1.run pins s σ H _ I h) fun c s1 ⟨H1, I1, q1⟩ => ?_)
  cases c with
  | false => exact pss_nil.run pins s1 σ H1 D I1 q1
  | true =>
    refine isTrue_and (thn (h2 pins s1 σ H1 _ I1 q1) fun c s2 ⟨hk, H2, I2, q2⟩ => ?_)
    cases c with
    | false => exact pss_nil.run pins s2 σ H2 D I2 q2
    | true => exact isTrue_and_nil (hs pins s2 σ H2 D hk I2 q2)
end
end DL
/-! DLQ: x.replace behind a test; x, y = a, []; defs with a def as their last argument -/
namespace DL
open PySem PySem.Spec L2 PyProof.Rows
section
variable {X : Cx} {W : WX}
def gRepl (y z : Str) : PyData → Option PyData
  | .str x => if x.length + (x.length + 1) * z.length ≤ 16777216 ∧ TxOk (Txt.replace x y z) then some (.str (Txt.replace x y z)) else none
  | _ => none
theorem pst_set {i : Nat} {x : Str} {e : Expr} {te : TE} {pos pos' : Pos} (hN : X.N.Nodup) (hi : X.N[i]? = some x) (hx : Loc X.env.scope x) (he : PET X e te) (hs : swapsWith e (some (.Name x pos')) pos.line X.env = pure false) (hf : X.fn x = true ∨ X.env.scope.names.lookup x = some .local) :
    PST X (.Assign [.Name x pos'] e pos) (tAsg te (gName i)) := by
  intro pins s σ H D h0 I h
  refine wpAny_Assign_Name (thn (he pins s σ H _ h0 I h) fun v s1 ⟨y, H1, I1, r1, q1⟩ => ?_) hs
  exact store_ok I1 hN hi hx r1 (fun s2 I2 => ⟨_, H1, I2, q1⟩) hf
theorem ds_ifRepl {i : Nat} {x w y z : Str} {c1 b o : Expr} {op : CmpOp} {j j1 k1 : Nat} {p1 p2 pb px q0 q1 apos cpos spos pos : Pos} {t1 : M Bool} {fb fo : M PyData} {g : PyData → PyData → Option PyData} (hN : X.N.Nodup) (h1 : DT X W c1 t1) (ho : Op2 X (compareOp op) g) (hb : DE X W b fb) (hro : DE X W o fo)
    (hw : TxOk w := by decide +kernel) (hi : X.N[i]? = some x := by rfl) (hx : Loc X.env.scope x := by first | exact Or.inl rfl | exact Or.inr rfl) (hm : behindInMarks op b = false := by first | exact nobehind _ (by decide) (by decide) | rfl) (hyz : (y == z) = false := by decide)
    (hst : starEach [.Constant (.str y) j1 q0, .Constant (.str z) k1 q1] X.env = [(false, eval (.Constant (.str y) j1 q0) X.env), (false, eval (.Constant (.str z) k1 q1) X.env)] := by rfl)
    (hbase : attributeBase o "replace" X.env (eval o X.env) = eval o X.env := by rfl) (hline : (apos.endLine == cpos.line) = true := by rfl)
    (hs : swapsWith (.Call (.Attribute o "replace" apos) [.Constant (.str y) j1 q0, .Constant (.str z) k1 q1] [] cpos) (some (.Name x px)) spos.line X.env = pure false := by rfl) (hf : X.fn x = true ∨ X.env.scope.names.lookup x = some .local := by first | exact .inl rfl | exact .inr rfl | assumption) :
    DS X W (.If (.BoolOp .And [c1, .Compare (.Constant (.str w) j p1) [op] [b] p2] pb) [.Assign [.Name x px] (.Call (.Attribute o "replace" apos) [.Constant (.str y) j1 q0, .Constant (.str z) k1 q1] [] cpos) spos] [] pos)
      (mAnd t1 (((pure (.str w)) >>= fun x => fb >>= fun y => M.lift (g x y)) >>= fun d => M.lift (asB d)) >>= fun c => if c = true then (fo >>= fun x => M.lift (gRepl y z x) >>= fun d => M.setD i d >>= fun _ => pure .nx) else (pure .nx)) := by
  obtain ⟨r, hr1, hr2⟩ := ho
  refine PS_mono (ps_ifT h1 (ptt_cmp hr1 hb hm) (CwR.psst_one (pst_set hN hi hx (CwR.pet_replC hro hyz hst hbase hline) hs hf))) fun D σ H ⟨F, P, S, env, rel, post⟩ => ?_
  refine ⟨F, P, S, env, rel, ?_⟩
  rw [bind_run] at post
  unfold mAnd at post
  rw [bind_run] at post
  cases ht1 : t1 env with
  | bad => rw [ht1] at post; exact post.elim
  | exc xx e1 => rw [ht1] at post; exact fun cls d S' H' => post σ cls d S' H'
  | ok c e1 =>
    rw [ht1, then_ok] at post
    intro S1 H1 rel1 ex1
    cases c with
    | false => exact post σ S1 H1 rel1 ex1
    | true =>
      rw [if_pos rfl] at post
      show tTest (tOp r (tC (.str w)) (tD X W fb)) σ H1 _
      have key : tD X W ((pure (PyData.str w)) >>= fun x => fb >>= fun y => M.lift (g x y)) σ H1 fun v H2 => ∃ k, v = .bl k ∧ (if k = true then (tAsg (CwR.tReplC (tD X W fo) y z) (gName i)) D σ H2 else tNext D σ H2) := by
        refine ⟨F, P, S1, e1, rel1, ?_⟩
        cases hcmp : ((pure (PyData.str w)) >>= fun x => fb >>= fun y => M.lift (g x y) : M PyData) e1 with
        | bad => rw [bind_run, hcmp] at post; exact post.elim
        | exc xx e2 =>
          rw [bind_run, hcmp] at post
          exact fun cls d S' H' rr ex rx => post σ cls d S' H' rr (ex1.trans ex) rx
        | ok d e2 =>
          rw [bind_run, hcmp, then_ok] at post
          intro v S2 H2 rel2 ex2 rp2
          cases hd : asB d with
          | none => rw [hd] at post; exact post.elim
          | some k =>
            rw [hd] at post
            have := asB_eq hd
            subst this
            refine ⟨k, rp2.bl_inv, ?_⟩
            cases k with
            | false => exact post σ S2 H2 rel2 (ex1.trans ex2)
            | true =>
              have post' : PostS X W F P S ((fo >>= fun x => M.lift (gRepl y z x) >>= fun d => M.setD i d >>= fun _ => pure .nx : M Fl) e2) fun fl e => FlOk X F P S D e fl := post
              refine ⟨F, P, S2, e2, rel2, (PostS.stepE (σ := σ) post' (R' := fun dx e3 => PostS X W F P S ((M.lift (gRepl y z dx) >>= fun d => M.setD i d >>= fun _ => pure .nx : M Fl) e3) fun fl e => FlOk X F P S D e fl) fun _ _ q => q).mono (ex1.trans ex2) fun dx e3 p3 v3 S3 H3 rel3 ex3 rp3 => ?_⟩
              rw [bind_run] at p3
              cases hg : gRepl y z dx with
              | none => rw [hg] at p3; exact p3.elim
              | some dz =>
                rw [hg] at p3
                unfold gRepl at hg
                split at hg
                · split at hg
                  · rename_i xs hl
                    cases hg
                    obtain ⟨rfl, _⟩ := rp3.str_inv
                    exact ⟨xs, rfl, hl.1, p3 _ S3 H3 (rel3.setD (.str _ hl.2)) ((ex1.trans ex2).trans ex3)⟩
                  · cases hg
                · cases hg
      obtain ⟨F', P', S', env', rel', post'⟩ := two (a := b) (b := b) (fa := pure (PyData.str w)) (fb := fb) hr2 key
      have := post' (.str w) S' H1 rel' (Ex.refl S') (.str w hw)
      exact this
/-- x, y = a, [] -/
theorem ds_parL {i j : Nat} {x y : Str} {a : Expr} {f : M PyData} {px py pt pos pl : Pos} {kt k2 pt2} (hc : X.calm = true) (hN : X.N.Nodup) (ha : DE X W a f) (hi : X.N[i]? = some x := by rfl) (hj : X.N[j]? = some y := by rfl) (hij : i ≠ j := by decide)
    (hx : X.env.scope.names.lookup x = some .local := by rfl) (hy : X.env.scope.names.lookup y = some .local := by rfl)
    (hst : starEach [a, .List [] pl] X.env = (false, eval a X.env) :: starEach [.List [] pl] X.env := by rfl) (hst2 : starEach [.List [] pl] X.env = (false, eval (.List [] pl) X.env) :: starEach [] X.env := by rfl)
    (hw : swappedStores [.Tuple [.Name x px, .Name y py] kt pt] (.Tuple [a, .List [] pl] k2 pt2) X.env = pure (some [x, y]) := by rfl)
    (hs : swapsWithSole [.Tuple [.Name x px, .Name y py] kt pt] (.Tuple [a, .List [] pl] k2 pt2) pos.line X.env = pure false := by rfl) :
    DS X W (.Assign [.Tuple [.Name x px, .Name y py] kt pt] (.Tuple [a, .List [] pl] k2 pt2) pos) (f >>= fun d => M.setD i d >>= fun _ => M.setL j [] >>= fun _ => pure .nx) := by
  refine PS_mono (ps_par hc hN hi hj hij hx hy (pa_cons ha (pa_cons (pe_lst pa_nil) pa_nil hst2) hst) hw hs) fun D σ H ⟨F, P, S, env, rel, post⟩ => ?_
  refine ⟨F, P, S, env, rel, PostS.stepE post fun d e q v S1 H1 rel1 ex1 rp1 => ?_⟩
  refine ⟨Nat.zero_le _, fun p hp => ⟨v, .ref p, rfl, ?_⟩⟩
  exact q _ S1 _ ((rel1.setD rp1).setMt (m := .lst []) hp .nil) ex1
end
/-! ### a def whose last argument is a def -/
section
variable (K : PySem.W.Frag) (mg : Str → Option Value)
def spF (y : Str) (g : List PyData → Res PyData) : Sp := fun vs H Q E => ∃ F S ds rest a, vs = rest ++ [.ref a] ∧ mg y = some (.ref a) ∧ Wd K F S H ∧ RpAll K S rest ds ∧ RetA K mg F S Q E (g ds)
end
def runF (y : Str) (n N : Nat) (f : M Fl) (ds : List PyData) : Res PyData := if ds.length = n then
    match f (startE N (ds.map .dat ++ [.fn y])) with
    | .ok (.rt d) _ => .ok d
    | .ok .nx _ => .ok .none
    | .exc x _ => .exc x
    | _ => .bad
  else .bad
section
variable {P : Program} {w : World} {K : PySem.W.Frag} {mg : Str → Option Value} {base : Heap}
theorem fnF {x y qual : Str} {st : Stmt} {dvs : List V} {kws : List (Str × V)} {f : Addr} {fd : FuncData} {N ps : List Str} {n k : Nat} {b : M Fl} (Fn : FunD K x qual (defArgs st) (defBody st) (defScope st) dvs kws f fd) (Sc : FnScope N ps (defScope st)) (hn : ps.length = n + 1) (body : Body P w K mg base N k qual st f b) :
    FnG P w K mg base (L2.CX P w) (k + 1) f fd ps (spF K mg y (runF y n N.length b)) := by
  refine funG (CX := L2.CX P w) Fn Sc (fun vs H Q E h => ?_) (fun cdv A outer s H vs Q E cd hr h => ⟨_, body cdv A outer s H E cd hr, ?_⟩)
  · obtain ⟨F, S, ds, rest, a, rfl, _, _, r, q⟩ := h
    unfold runF at q
    split at q
    · rename_i hl; rw [List.length_append, r.length, hl, hn]; rfl
    · exact q.elim
  · obtain ⟨F, S, ds, rest, a, rfl, hm, wd, r, q⟩ := h
    unfold runF at q
    split at q
    · rename_i hl
      have hlen : (rest ++ [V.ref a]).length = (ds.map Sv.dat ++ [Sv.fn y]).length := by simp [r.length]
      have hNl : (ds.map Sv.dat ++ [Sv.fn y]).length ≤ N.length := by
        have := pre_le Sc
        simp; omega
      have rel : RelE K mg F [] S H (L2.start N (rest ++ [.ref a])) (startE N.length (ds.map .dat ++ [.fn y])) := by
        refine relE_start wd hlen hNl ?_ ?_
        · intro i s v e1 e2
          by_cases hi : i < ds.length
          · rw [List.getElem?_append_left (by simpa using hi)] at e1
            rw [List.getElem?_append_left (by rw [r.length]; exact hi)] at e2
            have z := r.svs (mg := mg) (F := F) (P := []) (H := H) i s v e1 e2
            rw [List.getElem?_map] at e1
            obtain ⟨d, h1, rfl⟩ := Option.map_eq_some_iff.mp e1
            obtain ⟨u, z1, z2⟩ := z
            refine ⟨u, ?_, z2⟩
            rw [List.map_append, List.getElem?_append_left (by simpa [r.length] using hi)]
            exact z1
          · have hi2 : i = ds.length := by
              have := (List.getElem?_eq_some_iff.mp e1).1
              simp at this; omega
            subst hi2
            rw [List.getElem?_append_right (by simp)] at e1
            simp at e1
            subst e1
            rw [List.getElem?_append_right (by rw [r.length]; exact Nat.le_refl _)] at e2
            simp [r.length] at e2
            subst e2
            refine ⟨a, ?_, hm⟩
            rw [List.map_append, List.getElem?_append_right (by simp [r.length])]
            simp [r.length]
        · intro i j _ _ _ _ e1 _
          by_cases hi : i < ds.length
          · rw [List.getElem?_append_left (by simpa using hi), List.getElem?_map] at e1
            obtain ⟨_, _, z⟩ := Option.map_eq_some_iff.mp e1; cases z
          · have := (List.getElem?_eq_some_iff.mp e1).1
            simp at this
            have hi2 : i = ds.length := by omega
            subst hi2
            rw [List.getElem?_append_right (by simp)] at e1
            simp at e1
      refine ⟨F, [], S, _, rel, ?_⟩
      cases hb : b (startE N.length (ds.map .dat ++ [.fn y])) with
      | bad => rw [hb] at q; exact q.elim
      | exc x e => rw [hb] at q; exact fun σ' cls dd S' H' r' ex rx => q cls dd S' H' ex r'.toWd rx
      | ok fl e =>
        rw [hb] at q
        cases fl with
        | rt d => exact fun v σ' S' H' r' ex rp => q v S' H' ex r'.toWd rp
        | nx => exact fun σ' S' H' r' ex => q .non S' H' ex r'.toWd .non
        | bk => exact q.elim
        | ct => exact q.elim
        | rl d => exact q.elim
    · exact q.elim
end
section
variable {X : Cx} {W : WX} {x y : Str} {k : Nat} {p pos py : Pos} {e : Expr} {fe : M PyData}
/-- f(e, g), g a def by name -/
theorem de_callF {g : List PyData → Res PyData} (G : FnIs X.prog X.w X.K X.mg X.base x k (spF X.K X.mg y g)) (hyx : ∃ fd, X.mg y = some (.ref fd)) (hr : RoomG k X.A) (cx : Ctx X W) (ha : DE X W e fe) (hg : Gl X x := by rfl) (hgy : Gl X y := by rfl)
    (hdb : (x == ("__debug__" : Str)) = false := by decide) (hdy : (y == ("__debug__" : Str)) = false := by decide) (he : starEach [e, .Name y py] X.env = (false, eval e X.env) :: starEach [.Name y py] X.env := by rfl) (he2 : starEach [.Name y py] X.env = (false, eval (.Name y py) X.env) :: starEach [] X.env := by rfl)
    (hpl : (backTo pos (starEach [.Name y py] X.env)).any (·.1) = false := by rfl) :
    DE X W (.Call (.Name x p) [e, .Name y py] [] pos) (fe >>= fun d => M.ofRes (g [d])) := by
  obtain ⟨f, fd', ps, hm, hk, hb, F⟩ := G.ex
  obtain ⟨fd, hy⟩ := hyx
  refine PE_mono (pe_callG F hr hg hm hk hb .nil (fun σ => passAt cx.tk σ) (pa_cons ha (pa_cons (pe_glob (v := .ref fd) hgy hy rfl hdy) pa_nil he2) he) hdb he hpl) fun σ H Q ⟨F, P, S, env, rel, post⟩ => ?_
  refine ⟨F, P, S, env, rel, Post.step post fun d e q v S1 H1 rel1 ex1 rp1 => ?_⟩
  refine ⟨rest H1 S1, S1, [d], [v], fd, rfl, hy, rest_wd rel1.sh rel1.tb rel1.ns, .one rp1, ?_⟩
  cases hgo : g [d] with
  | ok d' =>
    rw [hgo] at q
    intro v2 S2 H2 a w2 rp
    exact q v2 S2 H2 (rel1.grow (grow_call rel1.sh rel1.tb a w2)) (ex1.trans a) rp
  | exc x =>
    rw [hgo] at q
    intro cls dd S2 H2 a w2 rx
    exact q cls dd S2 H2 (rel1.grow (grow_call rel1.sh rel1.tb a w2)) (ex1.trans a) rx
  | bad => rw [hgo] at q; exact q.elim
end
end DL
/-! split and join of texts, replace of '{x' -/
namespace DL
open PySem L2 Builtin.Str
theorem app_free {c : Nat} : ∀ {p q x y : List Nat}, p ++ c :: x = q ++ c :: y → c ∉ p → c ∉ q → p = q ∧ x = y
  | [], [], _, _, h, _, _ => by simpa using h
  | [], b :: q, _, _, h, _, h2 => by
    simp only [List.nil_append, List.cons_append, List.cons.injEq] at h
    exact absurd (h.1 ▸ List.mem_cons_self) h2
  | a :: p, [], _, _, h, h1, _ => by
    simp only [List.nil_append, List.cons_append, List.cons.injEq] at h
    exact absurd (h.1 ▸ List.mem_cons_self) h1
  | a :: p, b :: q, x, y, h, h1, h2 => by
    simp only [List.cons_append, List.cons.injEq] at h
    obtain ⟨e1, e2⟩ := app_free h.2 (fun m => h1 (List.mem_cons_of_mem _ m)) (fun m => h2 (List.mem_cons_of_mem _ m))
    exact ⟨by rw [h.1, e1], e2⟩
theorem str_cps_inj {a b : Str} (h : a.cps.toList = b.cps.toList) : a = b := by
  obtain ⟨x⟩ := a; obtain ⟨y⟩ := b
  simp only at h
  rw [Array.toList_inj.mp h]
theorem join_cps2 (c : Nat) (x y : Str) (r : List Str) : (Str.join ⟨#[c]⟩ (x :: y :: r)).cps.toList = x.cps.toList ++ c :: (Str.join ⟨#[c]⟩ (y :: r)).cps.toList := by
  show (x ++ (⟨#[c]⟩ : Str) ++ Str.join ⟨#[c]⟩ (y :: r)).cps.toList = _
  rw [append_cps, append_cps]
  simp
theorem join_inj (c : Nat) : ∀ {ps qs : List Str}, ps ≠ [] → qs ≠ [] → (∀ p ∈ ps, c ∉ p.cps.toList) → (∀ p ∈ qs, c ∉ p.cps.toList) → Str.join ⟨#[c]⟩ ps = Str.join ⟨#[c]⟩ qs → ps = qs
  | [], _, h, _, _, _, _ => absurd rfl h
  | _, [], _, h, _, _, _ => absurd rfl h
  | [x], [y], _, _, _, _, h => by rw [show x = y from h]
  | [x], y :: y2 :: r, _, _, h1, _, h => by
    have e := congrArg (fun s : Str => s.cps.toList) h
    simp only [join_cps2] at e
    refine absurd ?_ (h1 x (by simp))
    show c ∈ (Str.join ⟨#[c]⟩ [x]).cps.toList
    rw [e]; simp
  | x :: x2 :: r, [y], _, _, _, h2, h => by
    have e := congrArg (fun s : Str => s.cps.toList) h
    simp only [join_cps2] at e
    refine absurd ?_ (h2 y (by simp))
    show c ∈ (Str.join ⟨#[c]⟩ [y]).cps.toList
    rw [← e]; simp
  | x :: x2 :: r, y :: y2 :: s, _, _, h1, h2, h => by
    have e := congrArg (fun s : Str => s.cps.toList) h
    simp only [join_cps2] at e
    obtain ⟨e1, e2⟩ := app_free e (h1 x (by simp)) (h2 y (by simp))
    have ih := join_inj c (ps := x2 :: r) (qs := y2 :: s) (by simp) (by simp) (fun p hp => h1 p (List.mem_cons_of_mem _ hp)) (fun p hp => h2 p (List.mem_cons_of_mem _ hp)) (str_cps_inj e2)
    rw [str_cps_inj e1, ih]
theorem split_join (c : Nat) {ps : List Str} (ne : ps ≠ []) (h : ∀ p ∈ ps, c ∉ p.cps.toList) : Txt.split (Txt.join ⟨#[c]⟩ ps) ⟨#[c]⟩ = ps := by
  show Txt.split (glued ⟨#[c]⟩ ps) ⟨#[c]⟩ = ps
  rw [StrLaws.glued_eq_join]
  have e := StrLaws.join_split (Str.join ⟨#[c]⟩ ps) ⟨#[c]⟩
  refine join_inj c (fun e2 => ?_) ne (StrLaws.split_free _ c) h e
  unfold Txt.split at e2
  split at e2
  · cases e2
  · split at e2
    · cases e2
    · rw [StrLaws.partsBetween_eq] at e2
      obtain ⟨p, r, e3⟩ := StrLaws.partsFrom_ne (Str.join ⟨#[c]⟩ ps) (⟨#[c]⟩ : Str).length 0 (occurrences (Str.join ⟨#[c]⟩ ps) ⟨#[c]⟩ 0 (Str.join ⟨#[c]⟩ ps).length ((Str.join ⟨#[c]⟩ ps).length + 1))
      rw [e3] at e2
      cases e2
/-! ### replace -/
def rp : List Nat → List Nat
  | [] => []
  | [c] => [c]
  | c :: d :: r => if c = 123 ∧ d = 120 then 123 :: 120 :: 120 :: rp r else c :: rp (d :: r)
theorem rp_ne {c : Nat} (l : List Nat) (h : ¬ (c = 123 ∧ l.head? = some 120)) : rp (c :: l) = c :: rp l := by
  cases l with
  | nil => rfl
  | cons d r =>
    rw [rp, if_neg (fun e => h ⟨e.1, by simp [e.2]⟩)]
theorem rp_yes (r : List Nat) : rp (123 :: 120 :: r) = 123 :: 120 :: 120 :: rp r := by rw [rp, if_pos ⟨rfl, rfl⟩]
theorem rp_app : ∀ (p q : List Nat), q.head? ≠ some 120 → rp (p ++ q) = rp p ++ rp q
  | [], q, _ => rfl
  | [c], q, h => by rw [List.singleton_append, rp_ne q (fun e => h e.2)]; rfl
  | c :: d :: r, q, h => by
    by_cases e : c = 123 ∧ d = 120
    · obtain ⟨rfl, rfl⟩ := e
      rw [List.cons_append, List.cons_append, rp_yes, rp_yes, rp_app r q h]; rfl
    · rw [List.cons_append, rp_ne _ (by simpa using e), rp_ne _ (by simpa using e), rp_app (d :: r) q h]; rfl
theorem rp_id : ∀ (l : List Nat), (∀ k, ¬ (l[k]? = some 123 ∧ l[k + 1]? = some 120)) → rp l = l
  | [], _ => rfl
  | c :: r, h => by
    rw [rp_ne r (fun e => h 0 ⟨by simp [e.1], by simpa [List.head?_eq_getElem?] using e.2⟩), rp_id r (fun k e => h (k + 1) (by simpa using e))]
theorem at_iff {x : Str} {k : Nat} : StrLaws.At x ⟨#[123, 120]⟩ x.length k ↔ x.cps.toList[k]? = some 123 ∧ x.cps.toList[k + 1]? = some 120 := by
  unfold StrLaws.At
  rw [StrLaws.subAt_eq]
  have hl : x.length = x.cps.toList.length := by simp [Str.length]
  rw [hl]
  generalize x.cps.toList = L
  show (k + 2 ≤ L.length ∧ ((L.drop k).take 2 == [123, 120]) = true) ↔ _
  rw [beq_iff_eq]
  constructor
  · rintro ⟨h1, h2⟩
    have a0 : ((L.drop k).take 2)[0]? = some 123 := by rw [h2]; rfl
    have a1 : ((L.drop k).take 2)[1]? = some 120 := by rw [h2]; rfl
    simp only [List.getElem?_take, List.getElem?_drop] at a0 a1
    exact ⟨by simpa using a0, by simpa using a1⟩
  · rintro ⟨h1, h2⟩
    have b1 := (List.getElem?_eq_some_iff.mp h1)
    have b2 := (List.getElem?_eq_some_iff.mp h2)
    obtain ⟨l1, e1⟩ := b1
    obtain ⟨l2, e2⟩ := b2
    refine ⟨by omega, ?_⟩
    rw [List.drop_eq_getElem_cons l1, List.drop_eq_getElem_cons l2, e1, e2]
    rfl
theorem rp_parts {x : Str} : ∀ (cuts : List Nat) (a f : Nat), StrLaws.ChainG x ⟨#[123, 120]⟩ x.length a cuts f → (∀ k, f ≤ k → ¬ StrLaws.At x ⟨#[123, 120]⟩ x.length k) →
    (Str.join ⟨#[123, 120, 120]⟩ (StrLaws.partsFrom x 2 a cuts)).cps.toList = rp (x.cps.toList.drop a)
  | [], a, f, h, hn => by
    have e : f = a := h
    subst e
    show (strSub x f x.length).cps.toList = _
    rw [StrLaws.strSub_toList, List.take_of_length_le (by simp [Str.length]), rp_id]
    intro k e
    rw [List.getElem?_drop, List.getElem?_drop] at e
    exact hn (f + k) (by omega) (at_iff.mpr ⟨e.1, by rw [← e.2]; congr 1⟩)
  | c :: r, a, f, h, hn => by
    obtain ⟨h1, h2, h3, h4⟩ := h
    have ih := rp_parts r (c + 2) f h4 hn
    obtain ⟨p, q, e⟩ := StrLaws.partsFrom_ne x 2 (c + 2) r
    show (Str.join _ (strSub x a c :: StrLaws.partsFrom x 2 (c + 2) r)).cps.toList = _
    rw [e] at ih ⊢
    show (strSub x a c ++ (⟨#[123, 120, 120]⟩ : Str) ++ Str.join _ (p :: q)).cps.toList = _
    rw [append_cps, append_cps, ih, StrLaws.strSub_toList]
    obtain ⟨g1, g2⟩ := at_iff.mp h2
    obtain ⟨l1, e1⟩ := List.getElem?_eq_some_iff.mp g1
    obtain ⟨l2, e2⟩ := List.getElem?_eq_some_iff.mp g2
    have d1 : x.cps.toList.drop a = (x.cps.toList.drop a).take (c - a) ++ 123 :: 120 :: x.cps.toList.drop (c + 2) := by
      have : x.cps.toList.drop c = 123 :: 120 :: x.cps.toList.drop (c + 2) := by
        rw [List.drop_eq_getElem_cons l1, List.drop_eq_getElem_cons l2, e1, e2]
      rw [← this]
      have e5 : x.cps.toList.drop c = (x.cps.toList.drop a).drop (c - a) := by rw [List.drop_drop]; congr 1; omega
      rw [e5, List.take_append_drop]
    have r1 : rp ((x.cps.toList.drop a).take (c - a)) = (x.cps.toList.drop a).take (c - a) := by
      refine rp_id _ fun k ⟨k1, k2⟩ => ?_
      have hk : k + 1 < c - a := by
        by_cases hk : k + 1 < c - a
        · exact hk
        · rw [List.getElem?_take, if_neg hk] at k2
          cases k2
      rw [List.getElem?_take, if_pos (by omega), List.getElem?_drop] at k1
      rw [List.getElem?_take, if_pos hk, List.getElem?_drop] at k2
      exact h3 (a + k) (by omega) (by omega) (at_iff.mpr ⟨k1, by rw [← k2]; congr 1⟩)
    conv => rhs; rw [d1]
    rw [rp_app _ _ (by simp), rp_yes, r1]
    simp
theorem replace_rp (x : Str) : (Txt.replace x "{x" "{xx").cps.toList = rp x.cps.toList := by
  have e1 : ("{x" : Str) = ⟨#[123, 120]⟩ := by decide +kernel
  have e2 : ("{xx" : Str) = ⟨#[123, 120, 120]⟩ := by decide +kernel
  rw [e1, e2]
  obtain ⟨f, hG, hn⟩ := StrLaws.occ_tight x ⟨#[123, 120]⟩ (by decide)
  unfold Txt.replace
  split
  · rename_i h
    have h' : occurrences x ⟨#[123, 120]⟩ 0 x.length (x.length + 1) = [] := by simpa [Str.length] using h
    rw [h'] at hG
    have e : f = 0 := hG
    subst e
    rw [rp_id]
    intro k e
    exact hn k (by omega) (at_iff.mpr e)
  · rw [StrLaws.glued_eq_join, StrLaws.partsBetween_eq]
    exact rp_parts _ 0 f hG hn
/-! ### '{xx' in -/
theorem inS_of {a b : Str} (pre post : List Nat) (h : b.cps.toList = pre ++ a.cps.toList ++ post) (hl : 2 ≤ a.length) : inS a b = true := by
  unfold inS
  split
  · rename_i c e
    have : a.length = 1 := by rw [length_cps, e]; rfl
    omega
  · rw [StrLaws.found_iff]
    have l1 : b.length = (pre ++ a.cps.toList ++ post).length := by rw [length_cps, h]
    have l2 : a.length = a.cps.toList.length := length_cps a
    refine ⟨pre.length, by rw [l1, l2]; simp, ?_⟩
    rw [StrLaws.subAt_eq, h, l2]
    simp
end DL
namespace DL
open PySem L2 PyProof.Rows PySem.Spec
/-! ### x in (a, b) for any data -/
section
variable {X : Cx} {W : WX} {K : PySem.W.Frag} {S H : Hp}
def rInT (K : PySem.W.Frag) : R2 := fun x y H Q => ∃ d ds, Dp K H x d ∧ Dp K H y (.tuple ds) ∧ SeqAt.shaped d = true ∧ SeqAt.shaped (.tuple ds) = true ∧ Q (.bl (ds.any fun z => PyData.eqv z d)) H
theorem op_inT (hu : X.A.units + 65 < cLine) : OpR X (compareOp .In) (rInT X.K) := by
  intro pins s σ H x y v u Q I rx ry h
  obtain ⟨d, ds, hd, he, sd, se, q⟩ := h
  obtain ⟨as, r1⟩ := Dp.reads I d x v hd rx
  obtain ⟨bs, r2⟩ := Dp.reads I (.tuple ds) y u he ry
  exact SeqAt.in_tuple_reads r2 r1 (SeqAt.canLay_of_shaped se) (SeqAt.canLay_of_shaped sd) (room_in_shaped sd hu) ⟨.bl _, H, I, rfl, q⟩
def gInT : PyData → PyData → Option PyData
  | x, .tuple ds => if simple x = true ∧ simple (.tuple ds) = true then some (.bool (ds.any fun z => PyData.eqv z x)) else none
  | _, _ => none
theorem o_inT (hu : X.A.units + 65 < cLine) : Op2 X (compareOp .In) gInT := by
  refine ⟨_, op_inT hu, fun S H x y dx dy dz Q e rx ry eq p => ?_⟩
  unfold gInT at eq
  split at eq
  · split at eq
    · rename_i h
      cases eq
      obtain ⟨a1, a2⟩ := rx.eqd e h.1
      obtain ⟨b1, b2⟩ := ry.eqd e h.2
      exact ⟨_, _, a1, b1, a2, b2, p.bl e⟩
    · cases eq
  · cases eq
def gInB : PyData → PyData → Option PyData := orG gIn gInT
theorem o_inB (hu : X.A.units + 65 < cLine) : Op2 X (compareOp .In) gInB := (o_in hu).or (o_inT hu)
end
/-! ### equal data -/
mutual
def eqX : PyData → PyData → Bool
  | .none, .none => true
  | .bool a, .bool b => a == b
  | .int a, .int b => a == b
  | .str a, .str b => a == b
  | .tuple a, .tuple b => eqXs a b
  | .list a, .list b => eqXs a b
  | _, _ => false
def eqXs : List PyData → List PyData → Bool
  | [], [] => true
  | a :: r, b :: s => eqX a b && eqXs r s
  | _, _ => false
end
mutual
theorem eqX_eq : ∀ {a b : PyData}, eqX a b = true → a = b
  | .none, b, h => by cases b <;> simp_all [eqX]
  | .bool _, b, h => by cases b <;> simp_all [eqX]
  | .int _, b, h => by cases b <;> simp_all [eqX]
  | .str _, b, h => by cases b <;> simp_all [eqX]
  | .tuple a, b, h => by
    cases b <;> simp only [eqX, Bool.false_eq_true] at h
    rw [eqXs_eq h]
  | .list a, b, h => by
    cases b <;> simp only [eqX, Bool.false_eq_true] at h
    rw [eqXs_eq h]
  | .dict _, b, h => by cases b <;> simp [eqX] at h
theorem eqXs_eq : ∀ {a b : List PyData}, eqXs a b = true → a = b
  | [], [], _ => rfl
  | [], _ :: _, h => by simp [eqXs] at h
  | _ :: _, [], h => by simp [eqXs] at h
  | a :: r, b :: s, h => by
    simp only [eqXs, Bool.and_eq_true] at h
    rw [eqX_eq h.1, eqXs_eq h.2]
end
def isR (r : Res PyData) (d : PyData) : Bool := match r with
  | .ok x => eqX x d
  | _ => false
theorem isR_eq {r : Res PyData} {d : PyData} (h : isR r d = true) : r = .ok d := by
  unfold isR at h; split at h
  · rw [eqX_eq h]
  · cases h
theorem ndA_nodup : ∀ (xs acc : List Str), (acc ++ xs).Nodup → ndA acc xs = xs.length
  | [], acc, _ => rfl
  | x :: xs, acc, h => by
    have h1 : x ∉ acc := fun m => by
      rw [List.nodup_append] at h
      exact h.2.2 x m x List.mem_cons_self rfl
    have := ndA_nodup xs (acc ++ [x]) (by simpa using h)
    simp [ndA, h1, this]; try omega
theorem nD_nodup {xs : List Str} (h : xs.Nodup) : nD xs = xs.length := ndA_nodup xs [] h
theorem strsOf_map : ∀ xs : List Str, strsOf (xs.map .str) = some xs
  | [] => rfl
  | x :: r => by simp [strsOf, strsOf_map r]
theorem lenSet_nodup {xs : List Str} (h : xs.Nodup) (hl : xs.length ≤ 1000) : gLenSet (.list (xs.map .str)) = some (.int xs.length) := by
  simp [gLenSet, strsOf_map, hl, nD_nodup h]
end DL
namespace DL
open PySem L2
/-! ### comprehensions and loops over the data of plain things -/
theorem mLC_on {α : Type} {vs : List Nat} {t : Tg} {tt : M Bool} {fe : M PyData} {e : Sl} (f : α → PyData) (p : α → Bool) (g : α → PyData) (xs : List α) (hn : noLis e vs = true) (hl : xs.length ≤ sizeLine)
    (st : ∀ a ∈ xs, ∃ e1 e2, t.set (f a) (wipeE e vs) = some e1 ∧ tt e1 = .ok (p a) e2 ∧ wipeE e2 vs = wipeE e vs ∧ (p a = true → ∃ e3, fe e2 = .ok (g a) e3 ∧ wipeE e3 vs = wipeE e vs)) :
    mLC vs t tt fe (xs.map f) e = .ok (.list ((xs.filter p).map g)) e := by
  have key : ∀ (rs pre : List α), xs = pre ++ rs → lcGo vs t tt fe (rs.map f) ((pre.filter p).map g) (wipeE e vs) = .ok ((xs.filter p).map g) (wipeE e vs) := by
    intro rs
    induction rs with
    | nil => intro pre hp; rw [hp, List.append_nil]; rfl
    | cons d rs ih =>
      intro pre hp
      obtain ⟨e1, e2, h1, h2, h3, h4⟩ := st d (by rw [hp]; simp)
      rw [List.map_cons]
      unfold lcGo
      rw [bind_ok (tset_run h1), bind_ok h2]
      have nx := ih (pre ++ [d]) (by rw [hp]; simp)
      cases hpd : p d with
      | true =>
        obtain ⟨e3, g1, g2⟩ := h4 hpd
        have hsz : ((pre.filter p).map g).length + 1 ≤ sizeLine := by
          have a1 : (pre.filter p).length ≤ pre.length := List.length_filter_le _ _
          have a2 : xs.length = pre.length + (rs.length + 1) := by rw [hp]; simp
          rw [List.length_map]; omega
        rw [if_pos rfl, bind_ok g1, show szOk (((pre.filter p).map g).length + 1) = some () from if_pos hsz]
        show lcGo vs t tt fe (rs.map f) ((pre.filter p).map g ++ [g d]) (wipeE e3 vs) = _
        rw [g2, ← nx]
        simp [hpd]
      | false =>
        rw [if_neg Bool.false_ne_true]
        show lcGo vs t tt fe (rs.map f) ((pre.filter p).map g) (wipeE e2 vs) = _
        rw [h3, ← nx]
        simp [hpd]
  have := mLC_eq hn (key xs [] rfl)
  rw [this, restore_wipe]
theorem mLC_onM {α : Type} {vs : List Nat} {t : Tg} {fe : M PyData} {e : Sl} (f : α → PyData) (g : α → PyData) (xs : List α) (hn : noLis e vs = true) (hl : xs.length ≤ sizeLine)
    (st : ∀ a ∈ xs, ∃ e1 e3, t.set (f a) (wipeE e vs) = some e1 ∧ fe e1 = .ok (g a) e3 ∧ wipeE e1 vs = wipeE e vs ∧ wipeE e3 vs = wipeE e vs) :
    mLC vs t (pure true) fe (xs.map f) e = .ok (.list (xs.map g)) e := by
  have := mLC_on (vs := vs) (t := t) (tt := pure true) (fe := fe) (e := e) f (fun _ => true) g xs hn hl (fun d hd => by
    obtain ⟨e1, e3, h1, h2, h3, h4⟩ := st d hd
    exact ⟨e1, e1, h1, rfl, h3, fun _ => ⟨e3, h2, h4⟩⟩)
  rw [this, List.filter_eq_self.mpr (fun _ _ => rfl)]
theorem forM_on' {α : Type} {t : Tg} {b : M Fl} (f : α → PyData) (all : List α) (I : List α → Sl → Prop)
    (st : ∀ pre a rest e, all = pre ++ a :: rest → I pre e → ∃ e1 e2, t.set (f a) e = some e1 ∧ b e1 = .ok .nx e2 ∧ I (pre ++ [a]) e2) : ∀ (rest pre : List α) (e : Sl), all = pre ++ rest → I pre e → ∃ e', forM t b (rest.map f) e = .ok .nx e' ∧ I all e'
  | [], pre, e, ha, h => ⟨e, rfl, by rw [ha]; simpa using h⟩
  | d :: ds, pre, e, ha, h => by
    obtain ⟨e1, e2, h1, h2, h3⟩ := st pre d ds e ha h
    rw [List.map_cons, forM_nx h1 h2]
    exact forM_on' f all I st ds (pre ++ [d]) e2 (by rw [ha]; simp) h3
theorem forM_on {α : Type} {t : Tg} {b : M Fl} (f : α → PyData) (all : List α) (e : Sl) (I : List α → Sl → Prop) (h0 : I [] e)
    (st : ∀ pre a rest e, all = pre ++ a :: rest → I pre e → ∃ e1 e2, t.set (f a) e = some e1 ∧ b e1 = .ok .nx e2 ∧ I (pre ++ [a]) e2) : ∃ e', forM t b (all.map f) e = .ok .nx e' ∧ I all e' :=
  forM_on' f all I st all [] e rfl h0
/-! ### the order of lists of kinds -/
open PyProof.Rows PySem.W
abbrev LO : KeyOrd := listOrd itemOrd
theorem lex_two : ∀ (a a' b b' : List (Int ⊕ List Nat)), a.length = a'.length → PyProof.Rows.lexLt itemOrd (a ++ b) (a' ++ b') = (PyProof.Rows.lexLt itemOrd a a' || (!PyProof.Rows.lexLt itemOrd a' a && PyProof.Rows.lexLt itemOrd b b'))
  | [], [], b, b', _ => by simp [PyProof.Rows.lexLt]
  | [], _ :: _, _, _, h => by simp at h
  | _ :: _, [], _, _, h => by simp at h
  | x :: a, y :: a', b, b', h => by
    rw [List.cons_append, List.cons_append, lex_cons, lex_cons, lex_cons, lex_two a a' b b' (by simpa using h)]
    cases h1 : itemOrd.blt x y <;> cases h2 : itemOrd.blt y x <;> simp_all
def kTok (ks : List Nat) : List (Int ⊕ List Nat) := keyToks (.list (ks.map fun (k : Nat) => .int k))
def ltK (a b : List Nat) : Bool := PyProof.Rows.lexLt itemOrd (kTok a) (kTok b)
theorem kTok_len : ∀ ks : List Nat, (kTok ks).length = 2 * ks.length + 1
  | [] => rfl
  | k :: ks => by
    have := kTok_len ks
    simp only [kTok, List.map_cons, keyToks, keyToksAll] at this ⊢
    simp only [List.length_cons, List.length_append, List.length_nil] at this ⊢
    omega
def ksD (ks : List Nat) (i : Nat) : PyData := .tuple [.list (ks.map fun (k : Nat) => .int k), .int i]
theorem dataLt_ksD {a b : List Nat} {i j : Nat} (h : a.length = b.length) : dataLt (ksD a i) (ksD b j) = (ltK a b || (!ltK b a && decide (i < j))) := by
  unfold dataLt ksD
  have e1 : ∀ (ks : List Nat) (i : Nat), keyToks (.tuple [.list (ks.map fun (k : Nat) => .int k), .int i]) = (.inl 1 :: kTok ks) ++ [.inl 1, .inl (i : Int), .inl 0] := fun ks i => by
    simp [keyToks, keyToksAll, kTok]
  rw [e1, e1, lex_two _ _ _ _ (by simp [kTok_len, h])]
  have e2 : ∀ x y : List Nat, PyProof.Rows.lexLt itemOrd (.inl 1 :: kTok x) (.inl 1 :: kTok y) = ltK x y := fun x y => lex_self (O := itemOrd) _ _ _
  rw [e2, e2]
  congr 2
  rw [lex_self (O := itemOrd), lex_cons, lex_self (O := itemOrd)]
  have e3 : PyProof.Rows.lexLt itemOrd [] [] = false := rfl
  rw [e3, Bool.and_false, Bool.or_false]
  show decide ((i : Int) < j) = _
  simp
theorem ltK_irr (a : List Nat) : ltK a a = false := LO.irrefl _
theorem ltK_trans {a b c : List Nat} (h1 : ltK a b = true) (h2 : ltK b c = true) : ltK a c = true := LO.trans _ _ _ h1 h2
theorem dlt_irr (a : PyData) : dataLt a a = false := LO.irrefl _
theorem dlt_trans {a b c : PyData} (h1 : dataLt a b = true) (h2 : dataLt b c = true) : dataLt a c = true := LO.trans _ _ _ h1 h2
theorem dlt_neg {a b c : PyData} (h : dataLt a c = true) : dataLt a b = true ∨ dataLt b c = true := LO.negTrans _ _ _ h
/-- the least: none is less -/
theorem minD_le : ∀ (ds : List PyData) (d : PyData), ∀ x ∈ d :: ds, dataLt x (minD d ds) = false
  | [], d, x, hx => by
    have : x = d := by simpa using hx
    subst this
    exact dlt_irr x
  | y :: ds, d, x, hx => by
    have ih := minD_le ds (if dataLt y d = true then y else d)
    show dataLt x (minD (if dataLt y d = true then y else d) ds) = false
    have h0 := ih _ List.mem_cons_self
    rcases List.mem_cons.mp hx with rfl | hx
    · by_cases hy : dataLt y x = true
      · rw [if_pos hy] at h0 ⊢
        cases hc : dataLt x (minD y ds) with
        | false => rfl
        | true => rw [dlt_trans hy hc] at h0; cases h0
      · rw [if_neg hy] at h0 ⊢; exact h0
    · rcases List.mem_cons.mp hx with rfl | hx
      · by_cases hy : dataLt x d = true
        · rw [if_pos hy] at h0 ⊢; exact h0
        · rw [if_neg hy] at h0 ⊢
          cases hc : dataLt x (minD d ds) with
          | false => rfl
          | true =>
            rcases dlt_neg (b := d) hc with q | q
            · exact absurd q hy
            · rw [h0] at q; cases q
      · exact ih x (List.mem_cons_of_mem _ hx)
end DL
namespace DL
open PySem L2
/-! ### a list of one's own is read for a while, as data; what comes of it is flat -/
def mergeAt : Option Sv → Option Sv → Option (Option Sv)
  | some (.mt b (.lst _)), some (.mt b' (.lst cs)) => if b = b' ∧ cs.all flat = true then some (some (.mt b (.lst cs))) else none
  | some (.mt _ _), _ => none
  | s, _ => some s
def mergeE : Sl → Sl → Option Sl
  | [], [] => some []
  | a :: r, b :: s => match mergeAt a b, mergeE r s with
    | some x, some y => some (x :: y)
    | _, _ => none
  | _, _ => none
def MergeIs (a b : Sl) (j : Nat) (s : Sv) : Prop := (a[j]? = some (some s) ∧ ∀ b m, s ≠ .mt b m) ∨ ∃ o cs0 cs, s = .mt o (.lst cs) ∧ a[j]? = some (some (.mt o (.lst cs0))) ∧ b[j]? = some (some (.mt o (.lst cs))) ∧ cs.all flat = true
theorem mergeAt_is {x y : Option Sv} {s : Sv} (h : mergeAt x y = some (some s)) : (x = some s ∧ ∀ b m, s ≠ .mt b m) ∨ ∃ o cs0 cs, s = .mt o (.lst cs) ∧ x = some (.mt o (.lst cs0)) ∧ y = some (.mt o (.lst cs)) ∧ cs.all flat = true := by
  unfold mergeAt at h
  split at h
  · split at h
    · rename_i b c b' cs q
      cases h
      obtain ⟨rfl, q⟩ := q
      exact .inr ⟨_, _, _, rfl, rfl, rfl, q⟩
    · cases h
  · cases h
  · cases h
    refine .inl ⟨rfl, fun b m e => ?_⟩
    subst e
    simp_all
theorem mergeE_is : ∀ {a b m : Sl}, mergeE a b = some m → m.length = a.length ∧ ∀ j s, m[j]? = some (some s) → MergeIs a b j s
  | [], [], m, h => by cases h; exact ⟨rfl, fun j s e => by simp at e⟩
  | [], _ :: _, m, h => by cases h
  | _ :: _, [], m, h => by cases h
  | x :: a, y :: b, m, h => by
    unfold mergeE at h
    split at h
    · rename_i u v h1 h2
      cases h
      obtain ⟨i1, i2⟩ := mergeE_is h2
      refine ⟨by simp [i1], fun j s e => ?_⟩
      cases j with
      | zero =>
        simp only [List.getElem?_cons_zero, Option.some.injEq] at e
        subst e
        rcases mergeAt_is h1 with ⟨q1, q2⟩ | ⟨o, cs0, cs, q1, q2, q3, q4⟩
        · exact .inl ⟨by simp [q1], q2⟩
        · exact .inr ⟨o, cs0, cs, q1, by simp [q2], by simp [q3], q4⟩
      | succ j =>
        simp only [List.getElem?_cons_succ] at e
        rcases i2 j s e with ⟨q1, q2⟩ | ⟨o, cs0, cs, q1, q2, q3, q4⟩
        · exact .inl ⟨by simp [q1], q2⟩
        · exact .inr ⟨o, cs0, cs, q1, by simp [q2], by simp [q3], q4⟩
    · cases h
def M.borrow (i : Nat) (f : M PyData) : M PyData := fun env => match env[i]? with
  | some (some (.mt false (.lst ds))) => match f (env.set i (some (.dat (.list ds)))) with
    | .ok d env' => if flat d = true then (match mergeE (env.set i none) env' with
      | some m => .ok d (m.set i (some (.mt false (.lst ds))))
      | none => .bad) else .bad
    | _ => .bad
  | _ => f env
theorem Rp.flat_any {K : PySem.W.Frag} {S S' : Hp} {v : V} {d : PyData} (h : Rp K S v d) (hf : DL.flat d = true) : Rp K S' v d := by
  cases h with
  | non => exact .non
  | bl b => exact .bl b
  | int i => exact .int i
  | str x hx => exact .str x hx
  | _ => cases hf
theorem RpAll.flat_any {K : PySem.W.Frag} {S S' : Hp} : ∀ {vs : List V} {ds : List PyData}, RpAll K S vs ds → ds.all DL.flat = true → RpAll K S' vs ds
  | _, _, .nil, _ => .nil
  | _, _, .cons h r, hf => by
    simp only [List.all_cons, Bool.and_eq_true] at hf
    exact .cons (h.flat_any hf.1) (r.flat_any hf.2)
theorem RelE.lend {K : PySem.W.Frag} {mg : Str → Option Value} {F S H : Hp} {P : List (Option Addr)} {σ : L2.St} {env : Sl} {i : Nat} {ds : List PyData} (r : RelE K mg F P S H σ env) (he : env[i]? = some (some (.mt false (.lst ds)))) :
    ∃ S0, RelE K mg F P S0 H σ (env.set i (some (.dat (.list ds)))) ∧ ∀ env' m S2 H2, mergeE (env.set i none) env' = some m → RelE K mg F P S2 H2 σ env' → Ex S0 S2 → RelE K mg F P S H2 σ (m.set i (some (.mt false (.lst ds)))) := by
  obtain ⟨p, xs, h1, h2, h3, h4, h5, _⟩ := r.lis he
  have ex : Ex S (upd S p (.lst xs)) := Ex.new h3
  have rp : Rp K (upd S p (.lst xs)) (.ref p) (.list ds) := .lst upd_same (h5.mono ex)
  have hl : i < env.length := (List.getElem?_eq_some_iff.mp he).1
  refine ⟨upd S p (.lst xs), ⟨⟨fun a o q => ?_, r.fh, fun a o q => ?_, r.tb, r.ns.upd trivial, r.nf⟩, by simp [r.len], fun j s q => ?_, fun j k q bi di bj dj e1 e2 s1 s2 => ?_⟩, fun env' m S2 H2 hm r2 ex2 => ?_⟩
  · by_cases z : a = p
    · subst z; rw [upd_same] at q; cases q; exact h2
    · rw [upd_ne z] at q; exact r.sh a o q
  · by_cases z : a = p
    · subst z; exact .inl h4
    · rw [upd_ne z] at q; exact r.dj a o q
  · by_cases z : i = j
    · subst z
      rw [List.getElem?_set_self hl] at q; cases q
      exact ⟨.ref p, h1, rp⟩
    · rw [List.getElem?_set_ne z] at q
      have h := r.ats j s q
      cases s with
      | dat d => obtain ⟨v, g1, g2⟩ := h; exact ⟨v, g1, g2.mono ex⟩
      | raw v => exact h
      | fn x => exact h
      | exc a x => exact h
      | frz ds => obtain ⟨a, xs, g1, g2, g3⟩ := h; exact ⟨a, xs, g1, ex.l g2, g3.mono ex⟩
      | wk ds => obtain ⟨a, xs, g1, g2, g3⟩ := h; exact ⟨a, xs, g1, ex.t g2, g3.mono ex⟩
      | mt b ds' =>
        obtain ⟨p', xs', g1, g2, g3, g4, g5, g6⟩ := h
        refine ⟨p', xs', g1, g2, ?_, g4, g5.mono ex, g6⟩
        rw [upd_ne]
        · exact g3
        · intro y
          subst y
          exact z (r.uq i j p' false (.lst ds) b ds' he q h1 g1)
  · have aux : ∀ {j : Nat} {b : Bool} {ds' : Mt}, (env.set i (some (Sv.dat (.list ds))))[j]? = some (some (.mt b ds')) → i ≠ j := fun {j b ds'} e q => by
      subst q
      rw [List.getElem?_set_self hl] at e; cases e
    rw [List.getElem?_set_ne (aux e1)] at e1
    rw [List.getElem?_set_ne (aux e2)] at e2
    exact r.uq j k q bi di bj dj e1 e2 s1 s2
  · obtain ⟨ml, mi⟩ := mergeE_is hm
    have hml : m.length = env.length := by rw [ml]; simp
    have exS : Ex S S2 := ex.trans ex2
    have hp2 : H2 p = some (.lst xs) := r2.sh p _ (ex2 p _ upd_same)
    refine ⟨⟨exS.trans r2.sh, r2.fh, r.dj, r2.tb, r.ns, r.nf⟩, by simp [hml, r.len], fun j s q => ?_, fun j k q bi di bj dj e1 e2 s1 s2 => ?_⟩
    · by_cases z : i = j
      · subst z
        rw [List.getElem?_set_self (by omega)] at q; cases q
        exact ⟨p, .lst xs, h1, hp2, h3, h4, h5, fun hb => by cases hb⟩
      · rw [List.getElem?_set_ne z] at q
        rcases mi j s q with ⟨q1, q2⟩ | ⟨o, cs0, cs, rfl, q2, q3, q4⟩
        · rw [List.getElem?_set_ne z] at q1
          have h := r.ats j s q1
          cases s with
          | dat d => exact h
          | raw v => exact h
          | fn x => exact h
          | exc a x => exact h
          | frz ds => exact h
          | wk ds => exact h
          | mt b m => exact absurd rfl (q2 b m)
        · obtain ⟨p', o', g1, g2, g3, g4, g5, g6⟩ := r2.ats j _ q3
          obtain ⟨xs', rfl, g7⟩ := g5.lst_inv
          exact ⟨p', .lst xs', g1, g2, exS.back g3, g4, g7.flat_any q4, g6⟩
    · have aux : ∀ {j : Nat} {b : Bool} {dd : Mt}, (m.set i (some (Sv.mt false (.lst ds))))[j]? = some (some (.mt b dd)) → ∃ dd', env[j]? = some (some (.mt b dd')) := fun {j b dd} e => by
        by_cases z : i = j
        · subst z
          rw [List.getElem?_set_self (by omega)] at e; cases e
          exact ⟨_, he⟩
        · rw [List.getElem?_set_ne z] at e
          rcases mi j _ e with ⟨q1, q2⟩ | ⟨o, cs0, cs, q1, q2, q3, q4⟩
          · exact absurd rfl (q2 _ _)
          · cases q1
            rw [List.getElem?_set_ne z] at q2
            exact ⟨_, q2⟩
      obtain ⟨d1, f1⟩ := aux e1
      obtain ⟨d2, f2⟩ := aux e2
      exact r.uq j k q bi d1 bj d2 f1 f2 s1 s2
def M.borrowT (i : Nat) (f : M Bool) : M Bool := fun env => match env[i]? with
  | some (some (.mt false (.lst ds))) => match f (env.set i (some (.dat (.list ds)))) with
    | .ok d env' => (match mergeE (env.set i none) env' with
      | some m => .ok d (m.set i (some (.mt false (.lst ds))))
      | none => .bad)
    | _ => .bad
  | _ => f env
section
variable {X : Cx} {W : WX}
theorem de_borrow {e : Expr} {f : M PyData} (i : Nat) (h : DE X W e f) : DE X W e (M.borrow i f) := by
  refine PE_mono h fun σ H Q ⟨F, P, S, env, r, post⟩ => ?_
  unfold M.borrow at post
  split at post
  · rename_i ds he
    obtain ⟨S0, r0, back⟩ := r.lend he
    refine ⟨F, P, S0, env.set i (some (.dat (.list ds))), r0, ?_⟩
    cases ho : f (env.set i (some (.dat (.list ds)))) with
    | bad => rw [ho] at post; exact post.elim
    | exc x e => rw [ho] at post; exact post.elim
    | ok d env' =>
      rw [ho] at post
      simp only at post
      split at post
      · rename_i hf
        split at post
        · rename_i m hm
          intro v S2 H2 r2 ex2 rv
          exact post v S H2 (back env' m S2 H2 hm r2 ex2) (Ex.refl S) (rv.flat_any hf)
        · exact post.elim
      · exact post.elim
  · exact ⟨F, P, S, env, r, post⟩
theorem dt_borrow {e : Expr} {f : M Bool} (i : Nat) (h : DT X W e f) : DT X W e (M.borrowT i f) := by
  refine PT_mono h fun σ H Q ⟨F, P, S, env, r, post⟩ => ?_
  unfold M.borrowT at post
  split at post
  · rename_i ds he
    obtain ⟨S0, r0, back⟩ := r.lend he
    refine ⟨F, P, S0, env.set i (some (.dat (.list ds))), r0, ?_⟩
    cases ho : f (env.set i (some (.dat (.list ds)))) with
    | bad => rw [ho] at post; exact post.elim
    | exc x e => rw [ho] at post; exact post.elim
    | ok d env' =>
      rw [ho] at post
      simp only at post
      split at post
      · rename_i m hm
        intro S2 H2 r2 ex2
        exact post S H2 (back env' m S2 H2 hm r2 ex2) (Ex.refl S)
      · exact post.elim
  · exact ⟨F, P, S, env, r, post⟩
end
end DL
namespace DL
open PySem L2
section
variable {X : Cx} {W : WX}
/-- x, y, z = a, b, [] -/
theorem ds_par3L {i j l : Nat} {x y z : Str} {a b : Expr} {f g : M PyData} {px py pz pt pos pl : Pos} {kt k2 pt2} (hc : X.calm = true) (hN : X.N.Nodup) (ha : DE X W a f) (hb : DE X W b g) (hi : X.N[i]? = some x := by rfl) (hj : X.N[j]? = some y := by rfl) (hl : X.N[l]? = some z := by rfl)
    (hij : i ≠ j := by decide) (hil : i ≠ l := by decide) (hjl : j ≠ l := by decide)
    (hx : X.env.scope.names.lookup x = some .local := by rfl) (hy : X.env.scope.names.lookup y = some .local := by rfl) (hz : X.env.scope.names.lookup z = some .local := by rfl)
    (hst : starEach [a, b, .List [] pl] X.env = (false, eval a X.env) :: starEach [b, .List [] pl] X.env := by rfl) (hst2 : starEach [b, .List [] pl] X.env = (false, eval b X.env) :: starEach [.List [] pl] X.env := by rfl) (hst3 : starEach [.List [] pl] X.env = (false, eval (.List [] pl) X.env) :: starEach [] X.env := by rfl)
    (hw : swappedStores [.Tuple [.Name x px, .Name y py, .Name z pz] kt pt] (.Tuple [a, b, .List [] pl] k2 pt2) X.env = pure (some [x, y, z]) := by rfl)
    (hs : swapsWithSole [.Tuple [.Name x px, .Name y py, .Name z pz] kt pt] (.Tuple [a, b, .List [] pl] k2 pt2) pos.line X.env = pure false := by rfl) :
    DS X W (.Assign [.Tuple [.Name x px, .Name y py, .Name z pz] kt pt] (.Tuple [a, b, .List [] pl] k2 pt2) pos) (f >>= fun d => g >>= fun d2 => M.setD i d >>= fun _ => M.setD j d2 >>= fun _ => M.setL l [] >>= fun _ => pure .nx) := by
  refine PS_mono (ps_par3 hc hN hi hj hl hij hil hjl hx hy hz (pa_cons ha (pa_cons hb (pa_cons (pe_lst pa_nil) pa_nil hst3) hst2) hst) hw hs) fun D σ H ⟨F, P, S, env, rel, post⟩ => ?_
  refine ⟨F, P, S, env, rel, PostS.stepE post fun d e q v S1 H1 rel1 ex1 rp1 => ?_⟩
  refine ⟨F, P, S1, e, rel1, PostS.stepE (PostS.mono q ex1 fun _ _ z => z) fun d2 e2 q2 v2 S2 H2 rel2 ex2 rp2 => ?_⟩
  refine ⟨Nat.zero_le _, fun p hp => ⟨v, v2, .ref p, rfl, ?_⟩⟩
  exact q2 _ S2 _ (((rel2.setD (rp1.mono ex2)).setD rp2).setMt (m := .lst []) hp .nil) (ex1.trans ex2)
end
end DL
/-! zip of a tuple and a list: the pair of iterators is drawn from in turn, each by its own rule -/
namespace DL
open PySem
section
variable {prog : Program} {w : World} {A : Around} {E : Value → Shared → Prop} {s : Shared}
/-- a rule of an iterator that yields x -/
def Yields (prog : Program) (w : World) (it : Addr) (x : Value) (B C : Heap → Prop) : Prop := ∀ (A : Around) (E : Value → Shared → Prop) (Q : Value → Shared → Prop) (s : Shared), B s.heap → (∀ h', C h' → Heap.SameBut it s.heap h' → Q x { s with heap := h' }) → wpAny (model prog w) A (Builtin.SmallTypes.nextOf (.ref it)) Q E s
/-- a rule of an iterator at its end -/
def Ended (prog : Program) (w : World) (it : Addr) (B : Heap → Prop) : Prop := ∀ (A : Around) (E : Value → Shared → Prop) (Q : Value → Shared → Prop) (s : Shared), A.handled = none → B s.heap → (∀ h' e, Heap.ExtBut it s.heap h' → (∃ o, h'.get? e = some o ∧ o.cls = .type "StopIteration") → E (.ref e) { s with heap := h' }) → wpAny (model prog w) A (Builtin.SmallTypes.nextOf (.ref it)) Q E s
/-- what holds of a heap stays when another place changes -/
def Stays (ps : List Addr) (B : Heap → Prop) : Prop := ∀ (c : Addr) (h h' : Heap), c ∈ ps → Heap.ExtBut c h h' → B h → B h'
theorem zipG_item {z TI TO i1 i2 l1 l2 : Addr} {x y a b : Value} {B1 C1 B2 C2 : Heap → Prop} {Q : Value → Shared → Prop} (D : ZipApart z TI TO i1 i2 l1 l2)
    (hz : IsZip s.heap z TI TO .none) (hTI : IsPair s.heap TI (.ref i1) (.ref i2)) (hTO : IsPair s.heap TO a b)
    (n1 : Yields prog w i1 x B1 C1) (n2 : Yields prog w i2 y B2 C2) (k1 : Stays [z] B1) (k2 : Stays [z, i1, TO] B2) (h1 : B1 s.heap) (h2 : B2 s.heap)
    (hQ : ∀ h', IsZip h' z TI TO (rawInt s.heap.objs.size) → IsPair h' TO x y → IsPair h' s.heap.objs.size x y → h'.objs.size = s.heap.objs.size + 1 →
      (∀ c o, c ≠ z → c ≠ TO → c ≠ i1 → c ≠ i2 → s.heap.get? c = some o → h'.get? c = some o) →
      (∃ g1 g2 : Heap, C1 g1 ∧ C2 g2 ∧ (∀ c o, c ≠ z → c ≠ TO → c ≠ i2 → g1.get? c = some o → h'.get? c = some o) ∧ ∀ c o, c ≠ z → c ≠ TO → g2.get? c = some o → h'.get? c = some o) → Q (.ref s.heap.objs.size) { s with heap := h' }) :
    wpAny (model prog w) A (Builtin.«zip.__next__» ⟨[.ref z], []⟩) (fun fin s' => ∃ v, fin = .done (.ret v) ∧ Q v s') E s := by
  show wpAny _ _ (field (.ref z) 2 >>= _) _ _ _
  refine wpAny_bind (wpAny_field hz rfl (x := .bool false) rfl ?_)
  show wpAny _ _ (field (.ref z) 3 >>= _) _ _ _
  refine wpAny_bind (wpAny_field hz rfl (x := .ref TI) rfl ?_)
  refine wpAny_bind (wpAny_seqItems hTI rfl ?_)
  show wpAny _ _ (Builtin.SmallTypes.ownedTupleIsFree (.ref z) >>= _) _ _ _
  refine wpAny_bind ?_
  unfold Builtin.SmallTypes.ownedTupleIsFree
  refine wpAny_bind (wpAny_field hz rfl (x := .none) rfl (wpAny_pure ?_))
  simp only [if_true]
  refine wpAny_bind (wpAny_rule ?_)
  refine wpAny_bind (wpAny_field hz rfl (x := .ref TO) rfl ?_)
  refine wpAny_bind (wpAny_setField_rec hz (by simp) fun u1 z1 e1 => ?_)
  replace z1 : IsZip u1 z TI TO .ellipsis := z1
  refine wpAny_bind ?_
  simp only [List.zipIdx_cons, List.zipIdx_nil, List.forIn_cons, List.forIn_nil]
  refine wpAny_bind (wpAny_bind (wpAny_onRaise ?_))
  show wpAny _ _ (Builtin.SmallTypes.nextOf (.ref i1) >>= _) _ _ _
  refine wpAny_bind (n1 _ _ _ _ (k1 z _ _ (by simp) e1.extBut h1) fun u2 c1 e2 => wpAny_pure ?_)
  have t2 : IsPair u2 TO a b := e2.extBut _ _ D.TOi1 (e1.extBut _ _ D.TOz hTO)
  refine wpAny_bind (wpAny_seqItems t2 rfl ?_)
  refine wpAny_bind (wpAny_updateSeq_pair t2 fun u3 t3 e3 => ?_)
  replace t3 : IsPair u3 TO x b := t3
  refine wpAny_bind (wpAny_letGo (wpAny_pure ?_))
  refine wpAny_bind (wpAny_bind (wpAny_onRaise ?_))
  show wpAny _ _ (Builtin.SmallTypes.nextOf (.ref i2) >>= _) _ _ _
  refine wpAny_bind (n2 _ _ _ _ (k2 TO _ _ (by simp) e3.extBut (k2 i1 _ _ (by simp) e2.extBut (k2 z _ _ (by simp) e1.extBut h2))) fun u4 c2 e4 => wpAny_pure ?_)
  have t4 : IsPair u4 TO x b := e4.extBut _ _ D.TOi2 t3
  refine wpAny_bind (wpAny_seqItems t4 rfl ?_)
  refine wpAny_bind (wpAny_updateSeq_pair t4 fun u5 t5 e5 => ?_)
  replace t5 : IsPair u5 TO x y := t5
  refine wpAny_bind (wpAny_letGo (wpAny_pure (wpAny_pure ?_)))
  refine wpAny_bind (wpAny_seqItems t5 rfl ?_)
  refine wpAny_bind (wpAny_newTuple ?_)
  have sz : u5.objs.size = s.heap.objs.size := by rw [e5.1, e4.1, e3.1, e2.1, e1.1]
  have z5 : IsZip u5 z TI TO .ellipsis := e5.extBut _ _ D.TOz.symm (e4.extBut _ _ D.i2z.symm (e3.extBut _ _ D.TOz.symm (e2.extBut _ _ D.i1z.symm z1)))
  have lt : z < u5.objs.size := Heap.lt_size z5
  show wpAny _ _ (Builtin.SmallTypes.ownedTupleHandOut (.ref z) (.ref u5.objs.size) >>= _) _ _ _
  refine wpAny_bind ?_
  unfold Builtin.SmallTypes.ownedTupleHandOut
  have z6 : IsZip (u5.push { cls := .type "tuple", data := .seq #[x, y] }) z TI TO .ellipsis := Heap.get?_push_of_some _ z5
  refine wpAny_bind (wpAny_setField_rec z6 (by simp) fun u7 z7 e7 => ?_)
  replace z7 : IsZip u7 z TI TO (rawInt u5.objs.size) := z7
  refine wpAny_setField_rec z7 (by simp) fun u8 z8 e8 => ?_
  replace z8 : IsZip u8 z TI TO (rawInt u5.objs.size) := z8
  have up : ∀ c o, c ≠ z → u5.get? c = some o → u8.get? c = some o := fun c o c1 e => e8.extBut _ _ c1 (e7.extBut _ _ c1 (Heap.get?_push_of_some _ e))
  have t8 : IsPair u8 u5.objs.size x y := e8.extBut _ _ (Nat.ne_of_gt lt) (e7.extBut _ _ (Nat.ne_of_gt lt) (Heap.get?_push_size _ rfl))
  have s8 : u8.objs.size = u5.objs.size + 1 := by rw [e8.1, e7.1, Heap.size_push]
  rw [sz] at z8 t8 s8
  refine wpAny_pure ⟨_, rfl, ?_⟩
  show Q (.ref u5.objs.size) _
  rw [sz]
  refine hQ u8 z8 (up _ _ D.TOz t5) t8 s8 (fun c o q1 q2 q3 q4 e => up c o q1 (e5.extBut _ _ q2 (e4.extBut _ _ q4 (e3.extBut _ _ q2 (e2.extBut _ _ q3 (e1.extBut _ _ q1 e)))))) ⟨u2, u4, c1, c2, fun c o q1 q2 q4 e => ?_, fun c o q1 q2 e => ?_⟩
  · exact up c o q1 (e5.extBut _ _ q2 (e4.extBut _ _ q4 (e3.extBut _ _ q2 e)))
  · exact up c o q1 (e5.extBut _ _ q2 e)
theorem zipG_end {z TI TO i1 i2 l1 l2 : Addr} {x a b : Value} {B1 C1 B2 : Heap → Prop} {Q : Fin → Shared → Prop} (hh : A.handled = none) (D : ZipApart z TI TO i1 i2 l1 l2)
    (hz : IsZip s.heap z TI TO .none) (hTI : IsPair s.heap TI (.ref i1) (.ref i2)) (hTO : IsPair s.heap TO a b)
    (k1 : Stays [z] B1) (k2 : Stays [z, i1, TO] B2) (h1 : B1 s.heap) (h2 : B2 s.heap)
    (hend : Ended prog w i1 B1 ∨ (Yields prog w i1 x B1 C1 ∧ Ended prog w i2 B2))
    (hE : ∀ h' e, (∀ c o, c ≠ z → c ≠ TO → c ≠ i1 → c ≠ i2 → s.heap.get? c = some o → h'.get? c = some o) → (∃ o, h'.get? e = some o ∧ o.cls = .type "StopIteration") → E (.ref e) { s with heap := h' }) :
    wpAny (model prog w) A (Builtin.«zip.__next__» ⟨[.ref z], []⟩) Q E s := by
  show wpAny _ _ (field (.ref z) 2 >>= _) _ _ _
  refine wpAny_bind (wpAny_field hz rfl (x := .bool false) rfl ?_)
  show wpAny _ _ (field (.ref z) 3 >>= _) _ _ _
  refine wpAny_bind (wpAny_field hz rfl (x := .ref TI) rfl ?_)
  refine wpAny_bind (wpAny_seqItems hTI rfl ?_)
  show wpAny _ _ (Builtin.SmallTypes.ownedTupleIsFree (.ref z) >>= _) _ _ _
  refine wpAny_bind ?_
  unfold Builtin.SmallTypes.ownedTupleIsFree
  refine wpAny_bind (wpAny_field hz rfl (x := .none) rfl (wpAny_pure ?_))
  simp only [if_true]
  refine wpAny_bind (wpAny_rule ?_)
  refine wpAny_bind (wpAny_field hz rfl (x := .ref TO) rfl ?_)
  refine wpAny_bind (wpAny_setField_rec hz (by simp) fun u1 z1 e1 => ?_)
  replace z1 : IsZip u1 z TI TO .ellipsis := z1
  refine wpAny_bind ?_
  simp only [List.zipIdx_cons, List.zipIdx_nil, List.forIn_cons, List.forIn_nil]
  refine wpAny_bind (wpAny_bind (wpAny_onRaise ?_))
  show wpAny _ _ (Builtin.SmallTypes.nextOf (.ref i1) >>= _) _ _ _
  rcases hend with n1 | ⟨n1, n2⟩
  · refine wpAny_bind (n1 _ _ _ _ hh (k1 z _ _ (by simp) e1.extBut h1) fun u2 e e2 he => ?_)
    obtain ⟨oe, hoe, hce⟩ := he
    have z2 : IsZip u2 z TI TO .ellipsis := e2 _ _ D.i1z.symm z1
    have hez : e ≠ z := fun q => by subst q; rw [z2] at hoe; cases hoe; simp at hce
    exact wpAny_setField_rec z2 (by simp) fun u3 _ e3 => hE u3 e (fun c o c1 _ c3 _ q => e3.extBut _ _ c1 (e2 _ _ c3 (e1.extBut _ _ c1 q))) ⟨oe, e3.extBut _ _ hez hoe, hce⟩
  · refine wpAny_bind (n1 _ _ _ _ (k1 z _ _ (by simp) e1.extBut h1) fun u2 c1 e2 => wpAny_pure ?_)
    have t2 : IsPair u2 TO a b := e2.extBut _ _ D.TOi1 (e1.extBut _ _ D.TOz hTO)
    refine wpAny_bind (wpAny_seqItems t2 rfl ?_)
    refine wpAny_bind (wpAny_updateSeq_pair t2 fun u3 t3 e3 => ?_)
    refine wpAny_bind (wpAny_letGo (wpAny_pure ?_))
    refine wpAny_bind (wpAny_bind (wpAny_onRaise ?_))
    show wpAny _ _ (Builtin.SmallTypes.nextOf (.ref i2) >>= _) _ _ _
    refine wpAny_bind (n2 _ _ _ _ hh (k2 TO _ _ (by simp) e3.extBut (k2 i1 _ _ (by simp) e2.extBut (k2 z _ _ (by simp) e1.extBut h2))) fun u4 e e4 he => ?_)
    obtain ⟨oe, hoe, hce⟩ := he
    have z4 : IsZip u4 z TI TO .ellipsis := e4 _ _ D.i2z.symm (e3.extBut _ _ D.TOz.symm (e2.extBut _ _ D.i1z.symm z1))
    have hez : e ≠ z := fun q => by subst q; rw [z4] at hoe; cases hoe; simp at hce
    exact wpAny_setField_rec z4 (by simp) fun u5 _ e5 => hE u5 e (fun c o c1 c2 c3 c4 q => e5.extBut _ _ c1 (e4 _ _ c4 (e3.extBut _ _ c2 (e2.extBut _ _ c3 (e1.extBut _ _ c1 q))))) ⟨oe, e5.extBut _ _ hez hoe, hce⟩
/-- a tuple iterator with its tuple -/
def AtT (it l : Addr) (xs : Array Value) (i : Nat) (h : Heap) : Prop := h.IsTupleIter it l i ∧ h.IsTuple l xs
def AtL (it l : Addr) (xs : Array Value) (i : Nat) (h : Heap) : Prop := h.IsListIter it l i ∧ h.IsList l xs
theorem AtT.stays {it l : Addr} {xs : Array Value} {i : Nat} {ps : List Addr} (h1 : it ∉ ps) (h2 : l ∉ ps) : Stays ps (AtT it l xs i) :=
  fun c h h' hc e q => ⟨q.1.extBut e fun z => h1 (z ▸ hc), q.2.extBut e fun z => h2 (z ▸ hc)⟩
theorem AtL.stays {it l : Addr} {xs : Array Value} {i : Nat} {ps : List Addr} (h1 : it ∉ ps) (h2 : l ∉ ps) : Stays ps (AtL it l xs i) :=
  fun c h h' hc e q => ⟨q.1.extBut e fun z => h1 (z ▸ hc), q.2.extBut e fun z => h2 (z ▸ hc)⟩
theorem AtT.yields {it l : Addr} {xs : Array Value} {i : Nat} {x : Value} (hx : xs[i]? = some x) : Yields prog w it x (AtT it l xs i) (fun h => h.IsTupleIter it l (i + 1)) :=
  fun A E Q s b h => RZ.nextOf_tuple_item b.1 b.2 hx h
theorem AtL.yields {it l : Addr} {xs : Array Value} {i : Nat} {x : Value} (hx : xs[i]? = some x) : Yields prog w it x (AtL it l xs i) (fun h => h.IsListIter it l (i + 1)) :=
  fun A E Q s b h => wpAny_nextOf_list_item b.1 b.2 hx h
theorem AtT.ended {it l : Addr} {xs : Array Value} {i : Nat} (hx : xs[i]? = none) : Ended prog w it (AtT it l xs i) :=
  fun A E Q s hh b h => RZ.nextOf_tuple_end hh b.1 b.2 hx h
theorem AtL.ended {it l : Addr} {xs : Array Value} {i : Nat} (hx : xs[i]? = none) : Ended prog w it (AtL it l xs i) :=
  fun A E Q s hh b h => wpAny_nextOf_list_end hh b.1 b.2 hx h
theorem pyNext_zipM_item {z TI TO i1 i2 l1 l2 : Addr} {k1 k2 : Nat} {xs ys : Array Value} {x y a b : Value} {Q : Option Value → Shared → Prop} (D : ZipApart z TI TO i1 i2 l1 l2)
    (hz : IsZip s.heap z TI TO .none) (hTI : IsPair s.heap TI (.ref i1) (.ref i2)) (hTO : IsPair s.heap TO a b)
    (h1 : s.heap.IsTupleIter i1 l1 k1) (h2 : s.heap.IsListIter i2 l2 k2) (hl1 : s.heap.IsTuple l1 xs) (hl2 : s.heap.IsList l2 ys) (hx : xs[k1]? = some x) (hy : ys[k2]? = some y)
    (hQ : ∀ h', IsZip h' z TI TO (rawInt s.heap.objs.size) → IsPair h' TO x y → h'.IsTupleIter i1 l1 (k1 + 1) → h'.IsListIter i2 l2 (k2 + 1) → IsPair h' s.heap.objs.size x y → h'.objs.size = s.heap.objs.size + 1 →
      (∀ c o, c ≠ z → c ≠ TO → c ≠ i1 → c ≠ i2 → s.heap.get? c = some o → h'.get? c = some o) → Q (some (.ref s.heap.objs.size)) { s with heap := h' }) :
    wpAny (model prog w) A (pyNext (.ref z)) Q E s := by
  have hT : s.TypeIs (.ref z) "zip" := ⟨_, hz, rfl⟩
  unfold pyNext
  refine wpAny_bind (wpAny_attempt (wpAny_callSpecial?_slot (name := Str.ofString "__next__") hT F.slot_zip_next
    (wpAny_call_entry F.slot_zip_next hT F.entry_zip_next
      (zipG_item D hz hTI hTO (AtT.yields hx) (AtL.yields hy) (AtT.stays (by simpa using D.i1z) (by simpa using D.l1z)) (AtL.stays (by simpa using ⟨D.i2z, D.i12.symm, D.TOi2.symm⟩) (by simpa using ⟨D.l2z, D.l2i1, D.l2TO⟩)) ⟨h1, hl1⟩ ⟨h2, hl2⟩
        fun h' a1 a2 a5 a6 a7 ⟨g1, g2, c1, c2, m1, m2⟩ => wpAny_pure (hQ h' a1 a2 ?_ ?_ a5 a6 a7)) (F.args_zip_next_1 _))))
  · exact Heap.IsTupleIter.at c1 fun o q => m1 _ o D.i1z D.TOi1.symm D.i12 q
  · exact Heap.IsListIter.at c2 fun o q => m2 _ o D.i2z D.TOi2.symm q
theorem pyNext_zipM_end {z TI TO i1 i2 l1 l2 : Addr} {k1 k2 : Nat} {xs ys : Array Value} {a b : Value} {Q : Option Value → Shared → Prop} (hh : A.handled = none) (D : ZipApart z TI TO i1 i2 l1 l2)
    (hz : IsZip s.heap z TI TO .none) (hTI : IsPair s.heap TI (.ref i1) (.ref i2)) (hTO : IsPair s.heap TO a b)
    (h1 : s.heap.IsTupleIter i1 l1 k1) (h2 : s.heap.IsListIter i2 l2 k2) (hl1 : s.heap.IsTuple l1 xs) (hl2 : s.heap.IsList l2 ys) (hend : xs[k1]? = none ∨ ys[k2]? = none)
    (hQ : ∀ h', (∀ c o, c ≠ z → c ≠ TO → c ≠ i1 → c ≠ i2 → s.heap.get? c = some o → h'.get? c = some o) → Q none { s with heap := h' }) : wpAny (model prog w) A (pyNext (.ref z)) Q E s := by
  have hT : s.TypeIs (.ref z) "zip" := ⟨_, hz, rfl⟩
  have he : Ended prog w i1 (AtT i1 l1 xs k1) ∨ (Yields prog w i1 (xs[k1]?.getD .none) (AtT i1 l1 xs k1) (fun h => h.IsTupleIter i1 l1 (k1 + 1)) ∧ Ended prog w i2 (AtL i2 l2 ys k2)) := by
    cases hx : xs[k1]? with
    | none => exact .inl (AtT.ended hx)
    | some x =>
      have hy : ys[k2]? = none := by rcases hend with h | h; rw [hx] at h; cases h; exact h
      exact .inr ⟨AtT.yields (by rw [hx]; rfl), AtL.ended hy⟩
  unfold pyNext
  refine wpAny_bind (wpAny_attempt (wpAny_callSpecial?_slot (name := Str.ofString "__next__") hT F.slot_zip_next
    (wpAny_call_entry F.slot_zip_next hT F.entry_zip_next
      (zipG_end hh D hz hTI hTO (AtT.stays (by simpa using D.i1z) (by simpa using D.l1z)) (AtL.stays (by simpa using ⟨D.i2z, D.i12.symm, D.TOi2.symm⟩) (by simpa using ⟨D.l2z, D.l2i1, D.l2TO⟩)) ⟨h1, hl1⟩ ⟨h2, hl2⟩ he
        fun h' e hk he => ?_) (F.args_zip_next_1 _))))
  obtain ⟨o, ho, hc⟩ := he
  refine wpAny_bind (wpAny_isInstance (T := "StopIteration") (b := true) ⟨o, ho, hc⟩ isSubtype_stop ?_)
  exact wpAny_pure (hQ _ hk)
end
end DL
/-! a loop over zip(tuple, list) -/
namespace DL
open PySem PySem.Spec PyProof.Rows L2
/-- the tuple at a and the list at b as they stand at each turn, the items in new pairs -/
def ItzM (K : PySem.W.Frag) (a b : Addr) : It :=
  ⟨fun i H => ∃ (xs ys : List V) (x y : V), SqT K H a xs ∧ SqL K H b ys ∧ xs[i]? = some x ∧ ys[i]? = some y,
    fun i H v H' => ∃ T x y, v = .ref T ∧ H T = none ∧ H' = upd H T (.tup [x, y]) ∧ (∀ xs, SqT K H a xs → xs[i]? = some x) ∧ ∀ ys, SqL K H b ys → ys[i]? = some y,
    fun i H => ∃ xs ys : List V, SqT K H a xs ∧ SqL K H b ys ∧ (xs.length ≤ i ∨ ys.length ≤ i)⟩
theorem turn_zipM {P : Program} {w : World} {K : PySem.W.Frag} {elts : List Expr} {kk : Nat} {tpos : Pos} {a b z TI TO i1 i2 : Addr} (D : ZipApart z TI TO i1 i2 a b) :
    Turn P w K (.Tuple elts kk tpos) (ItzM K a b) [z, TI, TO, i1, i2] z (fun i h => IsZip h z TI TO .none ∧ IsPair h TI (.ref i1) (.ref i2) ∧ (∃ x y, IsPair h TO x y) ∧ h.IsTupleIter i1 a i ∧ h.IsListIter i2 b i) where
  mem := by simp
  obj := fun i h st c hc => by
    obtain ⟨hz, hTI, ⟨x, y, hTO⟩, ⟨o1, e1, _, d1⟩, ⟨o2, e2, _, d2⟩⟩ := st
    have e' : c = z ∨ c = TI ∨ c = TO ∨ c = i1 ∨ c = i2 := by simpa using hc
    rcases e' with q | q | q | q | q
    · rw [q]; exact ⟨_, hz, fun v q => nomatch q⟩
    · rw [q]; exact ⟨_, hTI, fun v q => nomatch q⟩
    · rw [q]; exact ⟨_, hTO, fun v q => nomatch q⟩
    · rw [q]; exact ⟨o1, e1, fun v q => by rw [d1] at q; cases q⟩
    · rw [q]; exact ⟨o2, e2, fun v q => by rw [d2] at q; cases q⟩
  keep := fun i h h' st k => by
    obtain ⟨hz, hTI, ⟨x, y, hTO⟩, h1, h2⟩ := st
    exact ⟨k z (by simp) _ hz, k TI (by simp) _ hTI, ⟨x, y, k TO (by simp) _ hTO⟩, h1.at fun o q => k i1 (by simp) o q, h2.at fun o q => k i2 (by simp) o q⟩
  item := by
    intro X hP hw hK hc i pins s σ H E I hf st hg
    subst hP hw hK
    obtain ⟨hz, hTI, ⟨x0, y0, hTO⟩, h1, h2⟩ := st
    obtain ⟨xs, ys, x, y, hqx, hqy, hx, hy⟩ := hg
    obtain ⟨its, rv, p, _⟩ := I.tuple hqx
    obtain ⟨its2, rv2, p2, _⟩ := I.list hqy
    obtain ⟨u, hu, ru⟩ := rv.get hx
    obtain ⟨u2, hu2, ru2⟩ := rv2.get hy
    have hzl : z < s.heap.objs.size := Heap.lt_size hz
    refine pyNext_zipM_item D hz hTI hTO h1 h2 p p2.isList (x := u) (y := u2) (by simpa using hu) (by simpa using hu2) fun h' z' TO' h1' h2' hT hsz hk => ?_
    refine ⟨_, rfl, wpAny_letOwnedTupleGo_zip (s := { s with heap := h' }) z' fun h'' z'' sb => ?_⟩
    have hT2 : h''.get? s.heap.objs.size = some { cls := .type "tuple", data := .seq #[u, u2] } := (sb.2 _ (Nat.ne_of_gt hzl)).trans hT
    have new : ObjOk X.prog X.w (upd H s.heap.objs.size (.tup [x, y])) h'' s.heap.objs.size (.tup [x, y]) :=
      ⟨by show 2 ≤ sizeLine; decide, [u, u2], .cons ru (.cons ru2 .nil), ⟨_, hT2, rfl, _, rfl⟩⟩
    have I1 : Inv X pins σ (upd H s.heap.objs.size (.tup [x, y])) { s with heap := h'' } :=
      I.turnedNew (t' := s.toks) (ch := [z, TI, TO, i1, i2]) (fun c o hb q => (sb.2 c (fun q' => hb (by simp [q']))).trans (hk c o (fun q' => hb (by simp [q'])) (fun q' => hb (by simp [q'])) (fun q' => hb (by simp [q'])) (fun q' => hb (by simp [q'])) q)) hf (Nat.le_refl _) new
    refine ⟨.ref s.heap.objs.size, _, I1, rfl, ⟨_, x, y, rfl, I.hok.fresh (Nat.le_refl _), rfl, fun l hl => by rw [I.tuple_inj hl hqx]; exact hx, fun l hl => by rw [I.list_inj hl hqy]; exact hy⟩, ⟨z'', ?_, ⟨u, u2, ?_⟩, ?_, ?_⟩, fun c hcm => ?_⟩
    · exact (sb.2 _ D.TIz).trans (hk _ _ D.TIz D.TITO D.TIi1 D.TIi2 hTI)
    · exact (sb.2 _ D.TOz).trans TO'
    · exact h1'.at fun o q => (sb.2 _ D.i1z).trans q
    · exact h2'.at fun o q => (sb.2 _ D.i2z).trans q
    · have hlt : c < s.heap.objs.size := by
        have e' : c = z ∨ c = TI ∨ c = TO ∨ c = i1 ∨ c = i2 := by simpa using hcm
        rcases e' with q | q | q | q | q
        · rw [q]; exact hzl
        · rw [q]; exact Heap.lt_size hTI
        · rw [q]; exact Heap.lt_size hTO
        · rw [q]; obtain ⟨_, e1, _⟩ := h1; exact Heap.lt_size e1
        · rw [q]; obtain ⟨_, e2, _⟩ := h2; exact Heap.lt_size e2
      rw [upd_ne (Nat.ne_of_lt hlt)]
      exact (hf c hcm).1
  done := by
    intro X hP hw hK hc i pins s σ H E I hf st hg
    subst hP hw hK
    obtain ⟨hz, hTI, ⟨x0, y0, hTO⟩, h1, h2⟩ := st
    obtain ⟨xs, ys, hqx, hqy, hend⟩ := hg
    obtain ⟨its, rv, p, _⟩ := I.tuple hqx
    obtain ⟨its2, rv2, p2, _⟩ := I.list hqy
    have l1 := rv.length
    have l2 := rv2.length
    have he : its.toArray[i]? = none ∨ its2.toArray[i]? = none := by
      rcases hend with q | q
      · exact .inl (by simp; omega)
      · exact .inr (by simp; omega)
    exact pyNext_zipM_end (I.ok.hd hc) D hz hTI hTO h1 h2 p p2.isList he fun h' hk => ⟨rfl, I.turnedL (t' := s.toks) (ch := [z, TI, TO, i1, i2]) (fun c o hb q =>
      hk c o (fun q' => hb (by simp [q'])) (fun q' => hb (by simp [q'])) (fun q' => hb (by simp [q'])) (fun q' => hb (by simp [q'])) q) hf⟩
  self := fun A i s Q E st h => wpAny_pyIter_zip st.1 h
abbrev zipMH1 (h : Heap) (l1 : Addr) : Heap := h.push { cls := .type "tuple_iterator", data := .fields #[.ref l1, .int 0 0] }
abbrev zipMH2 (h : Heap) (l1 l2 : Addr) : Heap := (zipMH1 h l1).push { cls := .type "list_iterator", data := .fields #[.ref l2, .int 0 0] }
abbrev zipMH3 (h : Heap) (l1 l2 : Addr) : Heap := (zipMH2 h l1 l2).push { cls := .type "tuple", data := .seq #[.ref h.objs.size, .ref (zipMH1 h l1).objs.size] }
abbrev zipMH4 (h : Heap) (l1 l2 : Addr) : Heap := (zipMH3 h l1 l2).push { cls := .type "tuple", data := .seq #[.none, .none] }
abbrev zipMH5 (h : Heap) (l1 l2 : Addr) : Heap := (zipMH4 h l1 l2).push { cls := .type "zip", data := .fields #[.none, .bool false, .bool false, .ref (zipMH2 h l1 l2).objs.size, .ref (zipMH3 h l1 l2).objs.size] }
theorem meets_zipM_new (l1 l2 : Addr) (xs ys : Array Value) :
    Meets (Builtin.«zip.__new__» ⟨[.type "zip", .ref l1, .ref l2], []⟩) (fun _ R s => s.heap.IsTuple l1 xs ∧ s.heap.IsList l2 ys ∧
      R (.ok (.ret (.ref (zipMH4 s.heap l1 l2).objs.size))) { s with heap := zipMH5 s.heap l1 l2 }) :=
  .of_wp fun prog w A R s h => by
    obtain ⟨hp, g, d, tk, os⟩ := s; obtain ⟨hl1, hl2, h⟩ := h
    have hsub := sub_zip
    have hL1 : Heap.IsTuple (Shared.heap ⟨hp, g, d, tk, os⟩) l1 xs := hl1
    have hL2 : Heap.IsList (Shared.heap ⟨hp.push { cls := .type "tuple_iterator", data := .fields #[.ref l1, .int 0 0] }, g, d, tk, os⟩) l2 ys := Heap.IsList.push hl2 _
    wp_walk using wpAny_pyIter_tuple hL1, wpAny_pyIter_list hL2
    exact ⟨_, rfl, h⟩
theorem call_zipM {prog : Program} {w : World} {A : Around} {E : Value → Shared → Prop} {s : Shared} {l1 l2 : Addr} {xs ys : Array Value} {Q : Value → Shared → Prop} (hl1 : s.heap.IsTuple l1 xs) (hl2 : s.heap.IsList l2 ys)
    (h : ∀ h', IsZip h' (s.heap.objs.size + 4) (s.heap.objs.size + 2) (s.heap.objs.size + 3) .none → IsPair h' (s.heap.objs.size + 2) (.ref s.heap.objs.size) (.ref (s.heap.objs.size + 1)) →
      IsPair h' (s.heap.objs.size + 3) .none .none → h'.IsTupleIter s.heap.objs.size l1 0 → h'.IsListIter (s.heap.objs.size + 1) l2 0 → h'.objs.size = s.heap.objs.size + 5 →
      (∀ c o, s.heap.get? c = some o → h'.get? c = some o) → Q (.ref (s.heap.objs.size + 4)) { s with heap := h' }) :
    wpAny (model prog w) A (call (.type "zip") [.ref l1, .ref l2]) Q E s := by
  refine callType_new F.called_zip (by decide) (F.typeCall_zip_2 _ _) (F.newCall_zip_2 _ _) (fun obj => F.args_object_init_3 obj _ _) F.entry_zip_new
    (meets_zipM_new l1 l2 xs ys) ⟨hl1, hl2, ?_⟩
  have z1 : (zipMH1 s.heap l1).objs.size = s.heap.objs.size + 1 := Heap.size_push ..
  have z2 : (zipMH2 s.heap l1 l2).objs.size = s.heap.objs.size + 2 := by rw [Heap.size_push, z1]
  have z3 : (zipMH3 s.heap l1 l2).objs.size = s.heap.objs.size + 3 := by rw [Heap.size_push, z2]
  have z4 : (zipMH4 s.heap l1 l2).objs.size = s.heap.objs.size + 4 := by rw [Heap.size_push, z3]
  have z5 : (zipMH5 s.heap l1 l2).objs.size = s.heap.objs.size + 5 := by rw [Heap.size_push, z4]
  have g5 : (zipMH5 s.heap l1 l2).get? (zipMH4 s.heap l1 l2).objs.size = some _ := Heap.get?_push_size _ rfl
  have g4 : (zipMH5 s.heap l1 l2).get? (zipMH3 s.heap l1 l2).objs.size = some _ := Heap.get?_push_of_some _ (Heap.get?_push_size _ rfl)
  have g3 : (zipMH5 s.heap l1 l2).get? (zipMH2 s.heap l1 l2).objs.size = some _ := Heap.get?_push_of_some _ (Heap.get?_push_of_some _ (Heap.get?_push_size _ rfl))
  have g2 : (zipMH5 s.heap l1 l2).get? (zipMH1 s.heap l1).objs.size = some _ := Heap.get?_push_of_some _ (Heap.get?_push_of_some _ (Heap.get?_push_of_some _ (Heap.get?_push_size _ rfl)))
  have g1 : (zipMH5 s.heap l1 l2).get? s.heap.objs.size = some _ := Heap.get?_push_of_some _ (Heap.get?_push_of_some _ (Heap.get?_push_of_some _ (Heap.get?_push_of_some _ (Heap.get?_push_size _ rfl))))
  show _ ∧ _
  rw [z2, z3, z4] at g5
  rw [z1, z2] at g3
  rw [z3] at g4
  rw [z1] at g2
  rw [z4]
  exact ⟨⟨_, g5, rfl⟩, h _ g5 g3 g4 ⟨_, g1, rfl, rfl⟩ ⟨_, g2, rfl, rfl⟩ z5 fun c o x =>
    Heap.get?_push_of_some _ (Heap.get?_push_of_some _ (Heap.get?_push_of_some _ (Heap.get?_push_of_some _ (Heap.get?_push_of_some _ x))))⟩
def iZipM (K : PySem.W.Frag) (ta : TA) : TI := fun σ H R => ta σ H fun vs H1 => ∃ a b xs ys, vs = [.ref a, .ref b] ∧ SqT K H1 a xs ∧ SqL K H1 b ys ∧ R (ItzM K a b) H1
theorem pi_zipM {X : Cx} {e e2 : Expr} {ta : TA} {p pos tpos : Pos} {elts : List Expr} {kk : Nat} (hg : Gl X "zip") (hm : X.mg "zip" = none) (ha : PA X [e, e2] ta)
    (hs : starEach [e, e2] X.env = (false, eval e X.env) :: starEach [e2] X.env := by rfl) (hpl : (backTo pos (starEach [e2] X.env)).any (·.1) = false := by rfl) :
    PI X (.Tuple elts kk tpos) (.Call (.Name "zip" p) [e, e2] [] pos) (iZipM X.K ta) := by
  refine ⟨fun pins s σ H R I h => ?_⟩
  refine Call_ (ld_blt I hg hm PyProof.Rows.boot_zip (PyProof.Rows.callWith_type1 (thn (ha.run pos pins s σ H _ I h) fun us s1 ⟨vs, H1, I1, r1, q1⟩ => ?_) hs hpl))
  obtain ⟨a, b, xs, ys, ex, hqx, hqy, q⟩ := q1
  subst ex
  cases r1 with
  | cons r rr =>
    cases rr with
    | cons r' rr =>
      cases rr
      cases r
      cases r'
      have fresh5 : ∀ c, c ∈ [s1.heap.objs.size + 4, s1.heap.objs.size + 2, s1.heap.objs.size + 3, s1.heap.objs.size, s1.heap.objs.size + 1] → FpOk X pins H1 c := fun c hcm => by
        have hle : s1.heap.objs.size ≤ c := by
          have e' : c = s1.heap.objs.size + 4 ∨ c = s1.heap.objs.size + 2 ∨ c = s1.heap.objs.size + 3 ∨ c = s1.heap.objs.size ∨ c = s1.heap.objs.size + 1 := by simpa using hcm
          rcases e' with z | z | z | z | z <;> rw [z] <;> first | exact Nat.le_refl _ | exact Nat.le_add_right _ _
        exact I1.fpOk hle (I1.hok.fresh hle)
      obtain ⟨its, rv, p1, _⟩ := I1.tuple hqx
      obtain ⟨its2, rv2, p2, _⟩ := I1.list hqy
      obtain ⟨o1, ho1, _⟩ := id p1
      refine call_zipM (show s1.heap.IsTuple a its.toArray from p1) p2.isList fun h' hz hTI hTO h1 h2 hsz hk => wpAny_pyIter_zip hz ?_
      have I2 : Inv X pins σ H1 { s1 with heap := h' } := I1.kept (t' := s1.toks) hk
      exact ⟨s1.heap.objs.size + 4, [s1.heap.objs.size + 4, s1.heap.objs.size + 2, s1.heap.objs.size + 3, s1.heap.objs.size, s1.heap.objs.size + 1], _, _, H1, rfl, I2, turn_zipM (PySem.W.ktu_apart s1.heap.objs.size a b (Heap.lt_size ho1) p2.lt), ⟨hz, hTI, ⟨_, _, hTO⟩, h1, h2⟩, fresh5, q⟩
theorem walk_zipM {K : PySem.W.Frag} {a b : Addr} {xs ys : List V} {n : Nat} (hn : n = min xs.length ys.length) : Walk (ItzM K a b) n (fun H => SqT K H a xs ∧ SqL K H b ys) (YPair (fun i => xs[i]?) (fun i => ys[i]?)) := by
  subst hn
  refine ⟨fun i _ hi q => ?_, fun _ q => ⟨xs, ys, q.1, q.2, by omega⟩, fun i H v H' _ q y => ?_⟩
  · have h1 : i < xs.length := by omega
    have h2 : i < ys.length := by omega
    exact ⟨xs, ys, xs[i], ys[i], q.1, q.2, by simp [h1], by simp [h2]⟩
  · obtain ⟨T, x, z, h1, h2, h3, h4, h5⟩ := y
    exact ⟨T, x, z, h1, h2, h3, h4 xs q.1, h5 ys q.2⟩
def gZipM : List PyData → Option (List PyData)
  | [.tuple xs, .list ys] => some (zipD xs ys)
  | _ => none
theorem di_zipM {X : Cx} {W : WX} {p pos : Pos} {a b : Expr} {f : M (List PyData)} {tpos : Pos} {elts : List Expr} {kk : Nat} (hm : X.mg "zip" = none) (ha : DA X W [a, b] f) (hg : Gl X "zip" := by rfl)
    (hs : starEach [a, b] X.env = (false, eval a X.env) :: starEach [b] X.env := by rfl) (hpl : (backTo pos (starEach [b] X.env)).any (·.1) = false := by rfl) :
    DI X W false (.Tuple elts kk tpos) (.Call (.Name "zip" p) [a, b] [] pos) (f >>= fun ds => M.lift (gZipM ds)) := by
  refine PI_mono (pi_zipM hg hm ha hs hpl) fun σ H R ⟨F, P, S, env, rel, post⟩ => ?_
  refine ⟨F, P, S, env, rel, Post.step post fun ds e q vs S1 H1 rel1 ex1 rp1 => ?_⟩
  obtain ⟨zs, hz, q2⟩ := q.lift
  have len : ∀ {xs ys : List PyData} {as bs : List V}, RpAll X.K S1 as xs → RpAll X.K S1 bs ys → (zipD xs ys).length = min as.length bs.length := fun {xs ys as bs} h1 h2 => by
    unfold zipD; rw [List.length_map, List.length_zip, h1.length, h2.length]
  have prs : ∀ {xs ys : List PyData} {as bs : List V}, RpAll X.K S1 as xs → RpAll X.K S1 bs ys → ∀ (i : Nat) (d : PyData), (zipD xs ys)[i]? = some d → ∃ x y dx dy, as[i]? = some x ∧ bs[i]? = some y ∧ d = .tuple [dx, dy] ∧ Rp X.K S1 x dx ∧ Rp X.K S1 y dy := fun {xs ys as bs} h1 h2 i d hd => by
    obtain ⟨dx, dy, g1, g2, rfl⟩ := zipD_get hd
    obtain ⟨x, k1, k2⟩ := h1.get' g1
    obtain ⟨y, k3, k4⟩ := h2.get' g2
    exact ⟨x, y, dx, dy, k1, k3, rfl, k2, k4⟩
  unfold gZipM at hz
  split at hz
  · cases hz
    obtain ⟨v, w, rfl, r1, r2⟩ := rp1.two_inv
    obtain ⟨a, xs, rfl, g1, h1⟩ := r1.tup_inv
    obtain ⟨b, ys, rfl, g2, h2⟩ := r2.lst_inv
    refine ⟨a, b, xs, ys, rfl, rel1.sh.t g1, rel1.sh.l (SqL.of g2), q2 _ S1 H1 rel1 ex1 ?_⟩
    exact wk_pair (walk_zipM (len h1 h2)) (fun H e => ⟨e.t g1, e.l (SqL.of g2)⟩) (prs h1 h2)
  · cases hz
end DL
/-! a loop over zip(list, tuple), the other way about -/
namespace DL
open PySem PySem.Spec PyProof.Rows L2
section
variable {prog : Program} {w : World} {A : Around} {E : Value → Shared → Prop} {s : Shared}
theorem pyNext_zipN_item {z TI TO i1 i2 l1 l2 : Addr} {k1 k2 : Nat} {xs ys : Array Value} {x y a b : Value} {Q : Option Value → Shared → Prop} (D : ZipApart z TI TO i1 i2 l1 l2)
    (hz : IsZip s.heap z TI TO .none) (hTI : IsPair s.heap TI (.ref i1) (.ref i2)) (hTO : IsPair s.heap TO a b)
    (h1 : s.heap.IsListIter i1 l1 k1) (h2 : s.heap.IsTupleIter i2 l2 k2) (hl1 : s.heap.IsList l1 xs) (hl2 : s.heap.IsTuple l2 ys) (hx : xs[k1]? = some x) (hy : ys[k2]? = some y)
    (hQ : ∀ h', IsZip h' z TI TO (rawInt s.heap.objs.size) → IsPair h' TO x y → h'.IsListIter i1 l1 (k1 + 1) → h'.IsTupleIter i2 l2 (k2 + 1) → IsPair h' s.heap.objs.size x y → h'.objs.size = s.heap.objs.size + 1 →
      (∀ c o, c ≠ z → c ≠ TO → c ≠ i1 → c ≠ i2 → s.heap.get? c = some o → h'.get? c = some o) → Q (some (.ref s.heap.objs.size)) { s with heap := h' }) :
    wpAny (model prog w) A (pyNext (.ref z)) Q E s := by
  have hT : s.TypeIs (.ref z) "zip" := ⟨_, hz, rfl⟩
  unfold pyNext
  refine wpAny_bind (wpAny_attempt (wpAny_callSpecial?_slot (name := Str.ofString "__next__") hT F.slot_zip_next
    (wpAny_call_entry F.slot_zip_next hT F.entry_zip_next
      (zipG_item D hz hTI hTO (AtL.yields hx) (AtT.yields hy) (AtL.stays (by simpa using D.i1z) (by simpa using D.l1z)) (AtT.stays (by simpa using ⟨D.i2z, D.i12.symm, D.TOi2.symm⟩) (by simpa using ⟨D.l2z, D.l2i1, D.l2TO⟩)) ⟨h1, hl1⟩ ⟨h2, hl2⟩
        fun h' a1 a2 a5 a6 a7 ⟨g1, g2, c1, c2, m1, m2⟩ => wpAny_pure (hQ h' a1 a2 ?_ ?_ a5 a6 a7)) (F.args_zip_next_1 _))))
  · exact Heap.IsListIter.at c1 fun o q => m1 _ o D.i1z D.TOi1.symm D.i12 q
  · exact Heap.IsTupleIter.at c2 fun o q => m2 _ o D.i2z D.TOi2.symm q
theorem pyNext_zipN_end {z TI TO i1 i2 l1 l2 : Addr} {k1 k2 : Nat} {xs ys : Array Value} {a b : Value} {Q : Option Value → Shared → Prop} (hh : A.handled = none) (D : ZipApart z TI TO i1 i2 l1 l2)
    (hz : IsZip s.heap z TI TO .none) (hTI : IsPair s.heap TI (.ref i1) (.ref i2)) (hTO : IsPair s.heap TO a b)
    (h1 : s.heap.IsListIter i1 l1 k1) (h2 : s.heap.IsTupleIter i2 l2 k2) (hl1 : s.heap.IsList l1 xs) (hl2 : s.heap.IsTuple l2 ys) (hend : xs[k1]? = none ∨ ys[k2]? = none)
    (hQ : ∀ h', (∀ c o, c ≠ z → c ≠ TO → c ≠ i1 → c ≠ i2 → s.heap.get? c = some o → h'.get? c = some o) → Q none { s with heap := h' }) : wpAny (model prog w) A (pyNext (.ref z)) Q E s := by
  have hT : s.TypeIs (.ref z) "zip" := ⟨_, hz, rfl⟩
  have he : Ended prog w i1 (AtL i1 l1 xs k1) ∨ (Yields prog w i1 (xs[k1]?.getD .none) (AtL i1 l1 xs k1) (fun h => h.IsListIter i1 l1 (k1 + 1)) ∧ Ended prog w i2 (AtT i2 l2 ys k2)) := by
    cases hx : xs[k1]? with
    | none => exact .inl (AtL.ended hx)
    | some x =>
      have hy : ys[k2]? = none := by rcases hend with h | h; rw [hx] at h; cases h; exact h
      exact .inr ⟨AtL.yields (by rw [hx]; rfl), AtT.ended hy⟩
  unfold pyNext
  refine wpAny_bind (wpAny_attempt (wpAny_callSpecial?_slot (name := Str.ofString "__next__") hT F.slot_zip_next
    (wpAny_call_entry F.slot_zip_next hT F.entry_zip_next
      (zipG_end hh D hz hTI hTO (AtL.stays (by simpa using D.i1z) (by simpa using D.l1z)) (AtT.stays (by simpa using ⟨D.i2z, D.i12.symm, D.TOi2.symm⟩) (by simpa using ⟨D.l2z, D.l2i1, D.l2TO⟩)) ⟨h1, hl1⟩ ⟨h2, hl2⟩ he
        fun h' e hk he => ?_) (F.args_zip_next_1 _))))
  obtain ⟨o, ho, hc⟩ := he
  refine wpAny_bind (wpAny_isInstance (T := "StopIteration") (b := true) ⟨o, ho, hc⟩ isSubtype_stop ?_)
  exact wpAny_pure (hQ _ hk)
end
/-- the list at a and the tuple at b as they stand at each turn, the items in new pairs -/
def ItzN (K : PySem.W.Frag) (a b : Addr) : It :=
  ⟨fun i H => ∃ (xs ys : List V) (x y : V), SqL K H a xs ∧ SqT K H b ys ∧ xs[i]? = some x ∧ ys[i]? = some y,
    fun i H v H' => ∃ T x y, v = .ref T ∧ H T = none ∧ H' = upd H T (.tup [x, y]) ∧ (∀ xs, SqL K H a xs → xs[i]? = some x) ∧ ∀ ys, SqT K H b ys → ys[i]? = some y,
    fun i H => ∃ xs ys : List V, SqL K H a xs ∧ SqT K H b ys ∧ (xs.length ≤ i ∨ ys.length ≤ i)⟩
theorem turn_zipN {P : Program} {w : World} {K : PySem.W.Frag} {elts : List Expr} {kk : Nat} {tpos : Pos} {a b z TI TO i1 i2 : Addr} (D : ZipApart z TI TO i1 i2 a b) :
    Turn P w K (.Tuple elts kk tpos) (ItzN K a b) [z, TI, TO, i1, i2] z (fun i h => IsZip h z TI TO .none ∧ IsPair h TI (.ref i1) (.ref i2) ∧ (∃ x y, IsPair h TO x y) ∧ h.IsListIter i1 a i ∧ h.IsTupleIter i2 b i) where
  mem := by simp
  obj := fun i h st c hc => by
    obtain ⟨hz, hTI, ⟨x, y, hTO⟩, ⟨o1, e1, _, d1⟩, ⟨o2, e2, _, d2⟩⟩ := st
    have e' : c = z ∨ c = TI ∨ c = TO ∨ c = i1 ∨ c = i2 := by simpa using hc
    rcases e' with q | q | q | q | q
    · rw [q]; exact ⟨_, hz, fun v q => nomatch q⟩
    · rw [q]; exact ⟨_, hTI, fun v q => nomatch q⟩
    · rw [q]; exact ⟨_, hTO, fun v q => nomatch q⟩
    · rw [q]; exact ⟨o1, e1, fun v q => by rw [d1] at q; cases q⟩
    · rw [q]; exact ⟨o2, e2, fun v q => by rw [d2] at q; cases q⟩
  keep := fun i h h' st k => by
    obtain ⟨hz, hTI, ⟨x, y, hTO⟩, h1, h2⟩ := st
    exact ⟨k z (by simp) _ hz, k TI (by simp) _ hTI, ⟨x, y, k TO (by simp) _ hTO⟩, h1.at fun o q => k i1 (by simp) o q, h2.at fun o q => k i2 (by simp) o q⟩
  item := by
    intro X hP hw hK hc i pins s σ H E I hf st hg
    subst hP hw hK
    obtain ⟨hz, hTI, ⟨x0, y0, hTO⟩, h1, h2⟩ := st
    obtain ⟨xs, ys, x, y, hqx, hqy, hx, hy⟩ := hg
    obtain ⟨its, rv, p, _⟩ := I.list hqx
    obtain ⟨its2, rv2, p2, _⟩ := I.tuple hqy
    obtain ⟨u, hu, ru⟩ := rv.get hx
    obtain ⟨u2, hu2, ru2⟩ := rv2.get hy
    have hzl : z < s.heap.objs.size := Heap.lt_size hz
    refine pyNext_zipN_item D hz hTI hTO h1 h2 p.isList p2 (x := u) (y := u2) (by simpa using hu) (by simpa using hu2) fun h' z' TO' h1' h2' hT hsz hk => ?_
    refine ⟨_, rfl, wpAny_letOwnedTupleGo_zip (s := { s with heap := h' }) z' fun h'' z'' sb => ?_⟩
    have hT2 : h''.get? s.heap.objs.size = some { cls := .type "tuple", data := .seq #[u, u2] } := (sb.2 _ (Nat.ne_of_gt hzl)).trans hT
    have new : ObjOk X.prog X.w (upd H s.heap.objs.size (.tup [x, y])) h'' s.heap.objs.size (.tup [x, y]) :=
      ⟨by show 2 ≤ sizeLine; decide, [u, u2], .cons ru (.cons ru2 .nil), ⟨_, hT2, rfl, _, rfl⟩⟩
    have I1 : Inv X pins σ (upd H s.heap.objs.size (.tup [x, y])) { s with heap := h'' } :=
      I.turnedNew (t' := s.toks) (ch := [z, TI, TO, i1, i2]) (fun c o hb q => (sb.2 c (fun q' => hb (by simp [q']))).trans (hk c o (fun q' => hb (by simp [q'])) (fun q' => hb (by simp [q'])) (fun q' => hb (by simp [q'])) (fun q' => hb (by simp [q'])) q)) hf (Nat.le_refl _) new
    refine ⟨.ref s.heap.objs.size, _, I1, rfl, ⟨_, x, y, rfl, I.hok.fresh (Nat.le_refl _), rfl, fun l hl => by rw [I.list_inj hl hqx]; exact hx, fun l hl => by rw [I.tuple_inj hl hqy]; exact hy⟩, ⟨z'', ?_, ⟨u, u2, ?_⟩, ?_, ?_⟩, fun c hcm => ?_⟩
    · exact (sb.2 _ D.TIz).trans (hk _ _ D.TIz D.TITO D.TIi1 D.TIi2 hTI)
    · exact (sb.2 _ D.TOz).trans TO'
    · exact h1'.at fun o q => (sb.2 _ D.i1z).trans q
    · exact h2'.at fun o q => (sb.2 _ D.i2z).trans q
    · have hlt : c < s.heap.objs.size := by
        have e' : c = z ∨ c = TI ∨ c = TO ∨ c = i1 ∨ c = i2 := by simpa using hcm
        rcases e' with q | q | q | q | q
        · rw [q]; exact hzl
        · rw [q]; exact Heap.lt_size hTI
        · rw [q]; exact Heap.lt_size hTO
        · rw [q]; obtain ⟨_, e1, _⟩ := h1; exact Heap.lt_size e1
        · rw [q]; obtain ⟨_, e2, _⟩ := h2; exact Heap.lt_size e2
      rw [upd_ne (Nat.ne_of_lt hlt)]
      exact (hf c hcm).1
  done := by
    intro X hP hw hK hc i pins s σ H E I hf st hg
    subst hP hw hK
    obtain ⟨hz, hTI, ⟨x0, y0, hTO⟩, h1, h2⟩ := st
    obtain ⟨xs, ys, hqx, hqy, hend⟩ := hg
    obtain ⟨its, rv, p, _⟩ := I.list hqx
    obtain ⟨its2, rv2, p2, _⟩ := I.tuple hqy
    have l1 := rv.length
    have l2 := rv2.length
    have he : its.toArray[i]? = none ∨ its2.toArray[i]? = none := by
      rcases hend with q | q
      · exact .inl (by simp; omega)
      · exact .inr (by simp; omega)
    exact pyNext_zipN_end (I.ok.hd hc) D hz hTI hTO h1 h2 p.isList p2 he fun h' hk => ⟨rfl, I.turnedL (t' := s.toks) (ch := [z, TI, TO, i1, i2]) (fun c o hb q =>
      hk c o (fun q' => hb (by simp [q'])) (fun q' => hb (by simp [q'])) (fun q' => hb (by simp [q'])) (fun q' => hb (by simp [q'])) q) hf⟩
  self := fun A i s Q E st h => wpAny_pyIter_zip st.1 h
abbrev zipNH1 (h : Heap) (l1 : Addr) : Heap := h.push { cls := .type "list_iterator", data := .fields #[.ref l1, .int 0 0] }
abbrev zipNH2 (h : Heap) (l1 l2 : Addr) : Heap := (zipNH1 h l1).push { cls := .type "tuple_iterator", data := .fields #[.ref l2, .int 0 0] }
abbrev zipNH3 (h : Heap) (l1 l2 : Addr) : Heap := (zipNH2 h l1 l2).push { cls := .type "tuple", data := .seq #[.ref h.objs.size, .ref (zipNH1 h l1).objs.size] }
abbrev zipNH4 (h : Heap) (l1 l2 : Addr) : Heap := (zipNH3 h l1 l2).push { cls := .type "tuple", data := .seq #[.none, .none] }
abbrev zipNH5 (h : Heap) (l1 l2 : Addr) : Heap := (zipNH4 h l1 l2).push { cls := .type "zip", data := .fields #[.none, .bool false, .bool false, .ref (zipNH2 h l1 l2).objs.size, .ref (zipNH3 h l1 l2).objs.size] }
theorem meets_zipN_new (l1 l2 : Addr) (xs ys : Array Value) :
    Meets (Builtin.«zip.__new__» ⟨[.type "zip", .ref l1, .ref l2], []⟩) (fun _ R s => s.heap.IsList l1 xs ∧ s.heap.IsTuple l2 ys ∧
      R (.ok (.ret (.ref (zipNH4 s.heap l1 l2).objs.size))) { s with heap := zipNH5 s.heap l1 l2 }) :=
  .of_wp fun prog w A R s h => by
    obtain ⟨hp, g, d, tk, os⟩ := s; obtain ⟨hl1, hl2, h⟩ := h
    have hsub := sub_zip
    have hL1 : Heap.IsList (Shared.heap ⟨hp, g, d, tk, os⟩) l1 xs := hl1
    have hL2 : Heap.IsTuple (Shared.heap ⟨hp.push { cls := .type "list_iterator", data := .fields #[.ref l1, .int 0 0] }, g, d, tk, os⟩) l2 ys := Heap.IsTuple.push hl2 _
    wp_walk using wpAny_pyIter_list hL1, wpAny_pyIter_tuple hL2
    exact ⟨_, rfl, h⟩
theorem call_zipN {prog : Program} {w : World} {A : Around} {E : Value → Shared → Prop} {s : Shared} {l1 l2 : Addr} {xs ys : Array Value} {Q : Value → Shared → Prop} (hl1 : s.heap.IsList l1 xs) (hl2 : s.heap.IsTuple l2 ys)
    (h : ∀ h', IsZip h' (s.heap.objs.size + 4) (s.heap.objs.size + 2) (s.heap.objs.size + 3) .none → IsPair h' (s.heap.objs.size + 2) (.ref s.heap.objs.size) (.ref (s.heap.objs.size + 1)) →
      IsPair h' (s.heap.objs.size + 3) .none .none → h'.IsListIter s.heap.objs.size l1 0 → h'.IsTupleIter (s.heap.objs.size + 1) l2 0 → h'.objs.size = s.heap.objs.size + 5 →
      (∀ c o, s.heap.get? c = some o → h'.get? c = some o) → Q (.ref (s.heap.objs.size + 4)) { s with heap := h' }) :
    wpAny (model prog w) A (call (.type "zip") [.ref l1, .ref l2]) Q E s := by
  refine callType_new F.called_zip (by decide) (F.typeCall_zip_2 _ _) (F.newCall_zip_2 _ _) (fun obj => F.args_object_init_3 obj _ _) F.entry_zip_new
    (meets_zipN_new l1 l2 xs ys) ⟨hl1, hl2, ?_⟩
  have z1 : (zipNH1 s.heap l1).objs.size = s.heap.objs.size + 1 := Heap.size_push ..
  have z2 : (zipNH2 s.heap l1 l2).objs.size = s.heap.objs.size + 2 := by rw [Heap.size_push, z1]
  have z3 : (zipNH3 s.heap l1 l2).objs.size = s.heap.objs.size + 3 := by rw [Heap.size_push, z2]
  have z4 : (zipNH4 s.heap l1 l2).objs.size = s.heap.objs.size + 4 := by rw [Heap.size_push, z3]
  have z5 : (zipNH5 s.heap l1 l2).objs.size = s.heap.objs.size + 5 := by rw [Heap.size_push, z4]
  have g5 : (zipNH5 s.heap l1 l2).get? (zipNH4 s.heap l1 l2).objs.size = some _ := Heap.get?_push_size _ rfl
  have g4 : (zipNH5 s.heap l1 l2).get? (zipNH3 s.heap l1 l2).objs.size = some _ := Heap.get?_push_of_some _ (Heap.get?_push_size _ rfl)
  have g3 : (zipNH5 s.heap l1 l2).get? (zipNH2 s.heap l1 l2).objs.size = some _ := Heap.get?_push_of_some _ (Heap.get?_push_of_some _ (Heap.get?_push_size _ rfl))
  have g2 : (zipNH5 s.heap l1 l2).get? (zipNH1 s.heap l1).objs.size = some _ := Heap.get?_push_of_some _ (Heap.get?_push_of_some _ (Heap.get?_push_of_some _ (Heap.get?_push_size _ rfl)))
  have g1 : (zipNH5 s.heap l1 l2).get? s.heap.objs.size = some _ := Heap.get?_push_of_some _ (Heap.get?_push_of_some _ (Heap.get?_push_of_some _ (Heap.get?_push_of_some _ (Heap.get?_push_size _ rfl))))
  show _ ∧ _
  rw [z2, z3, z4] at g5
  rw [z1, z2] at g3
  rw [z3] at g4
  rw [z1] at g2
  rw [z4]
  exact ⟨⟨_, g5, rfl⟩, h _ g5 g3 g4 ⟨_, g1, rfl, rfl⟩ ⟨_, g2, rfl, rfl⟩ z5 fun c o x =>
    Heap.get?_push_of_some _ (Heap.get?_push_of_some _ (Heap.get?_push_of_some _ (Heap.get?_push_of_some _ (Heap.get?_push_of_some _ x))))⟩
def iZipN (K : PySem.W.Frag) (ta : TA) : TI := fun σ H R => ta σ H fun vs H1 => ∃ a b xs ys, vs = [.ref a, .ref b] ∧ SqL K H1 a xs ∧ SqT K H1 b ys ∧ R (ItzN K a b) H1
theorem pi_zipN {X : Cx} {e e2 : Expr} {ta : TA} {p pos tpos : Pos} {elts : List Expr} {kk : Nat} (hg : Gl X "zip") (hm : X.mg "zip" = none) (ha : PA X [e, e2] ta)
    (hs : starEach [e, e2] X.env = (false, eval e X.env) :: starEach [e2] X.env := by rfl) (hpl : (backTo pos (starEach [e2] X.env)).any (·.1) = false := by rfl) :
    PI X (.Tuple elts kk tpos) (.Call (.Name "zip" p) [e, e2] [] pos) (iZipN X.K ta) := by
  refine ⟨fun pins s σ H R I h => ?_⟩
  refine Call_ (ld_blt I hg hm PyProof.Rows.boot_zip (PyProof.Rows.callWith_type1 (thn (ha.run pos pins s σ H _ I h) fun us s1 ⟨vs, H1, I1, r1, q1⟩ => ?_) hs hpl))
  obtain ⟨a, b, xs, ys, ex, hqx, hqy, q⟩ := q1
  subst ex
  cases r1 with
  | cons r rr =>
    cases rr with
    | cons r' rr =>
      cases rr
      cases r
      cases r'
      have fresh5 : ∀ c, c ∈ [s1.heap.objs.size + 4, s1.heap.objs.size + 2, s1.heap.objs.size + 3, s1.heap.objs.size, s1.heap.objs.size + 1] → FpOk X pins H1 c := fun c hcm => by
        have hle : s1.heap.objs.size ≤ c := by
          have e' : c = s1.heap.objs.size + 4 ∨ c = s1.heap.objs.size + 2 ∨ c = s1.heap.objs.size + 3 ∨ c = s1.heap.objs.size ∨ c = s1.heap.objs.size + 1 := by simpa using hcm
          rcases e' with z | z | z | z | z <;> rw [z] <;> first | exact Nat.le_refl _ | exact Nat.le_add_right _ _
        exact I1.fpOk hle (I1.hok.fresh hle)
      obtain ⟨its, rv, p1, _⟩ := I1.list hqx
      obtain ⟨its2, rv2, p2, _⟩ := I1.tuple hqy
      obtain ⟨o2, ho2, _⟩ := id p2
      refine call_zipN p1.isList (show s1.heap.IsTuple b its2.toArray from p2) fun h' hz hTI hTO h1 h2 hsz hk => wpAny_pyIter_zip hz ?_
      have I2 : Inv X pins σ H1 { s1 with heap := h' } := I1.kept (t' := s1.toks) hk
      exact ⟨s1.heap.objs.size + 4, [s1.heap.objs.size + 4, s1.heap.objs.size + 2, s1.heap.objs.size + 3, s1.heap.objs.size, s1.heap.objs.size + 1], _, _, H1, rfl, I2, turn_zipN (PySem.W.ktu_apart s1.heap.objs.size a b p1.lt (Heap.lt_size ho2)), ⟨hz, hTI, ⟨_, _, hTO⟩, h1, h2⟩, fresh5, q⟩
theorem walk_zipN {K : PySem.W.Frag} {a b : Addr} {xs ys : List V} {n : Nat} (hn : n = min xs.length ys.length) : Walk (ItzN K a b) n (fun H => SqL K H a xs ∧ SqT K H b ys) (YPair (fun i => xs[i]?) (fun i => ys[i]?)) := by
  subst hn
  refine ⟨fun i _ hi q => ?_, fun _ q => ⟨xs, ys, q.1, q.2, by omega⟩, fun i H v H' _ q y => ?_⟩
  · have h1 : i < xs.length := by omega
    have h2 : i < ys.length := by omega
    exact ⟨xs, ys, xs[i], ys[i], q.1, q.2, by simp [h1], by simp [h2]⟩
  · obtain ⟨T, x, z, h1, h2, h3, h4, h5⟩ := y
    exact ⟨T, x, z, h1, h2, h3, h4 xs q.1, h5 ys q.2⟩
def gZipN : List PyData → Option (List PyData)
  | [.list xs, .tuple ys] => some (zipD xs ys)
  | _ => none
theorem di_zipN {X : Cx} {W : WX} {p pos : Pos} {a b : Expr} {f : M (List PyData)} {tpos : Pos} {elts : List Expr} {kk : Nat} (hm : X.mg "zip" = none) (ha : DA X W [a, b] f) (hg : Gl X "zip" := by rfl)
    (hs : starEach [a, b] X.env = (false, eval a X.env) :: starEach [b] X.env := by rfl) (hpl : (backTo pos (starEach [b] X.env)).any (·.1) = false := by rfl) :
    DI X W false (.Tuple elts kk tpos) (.Call (.Name "zip" p) [a, b] [] pos) (f >>= fun ds => M.lift (gZipN ds)) := by
  refine PI_mono (pi_zipN hg hm ha hs hpl) fun σ H R ⟨F, P, S, env, rel, post⟩ => ?_
  refine ⟨F, P, S, env, rel, Post.step post fun ds e q vs S1 H1 rel1 ex1 rp1 => ?_⟩
  obtain ⟨zs, hz, q2⟩ := q.lift
  have len : ∀ {xs ys : List PyData} {as bs : List V}, RpAll X.K S1 as xs → RpAll X.K S1 bs ys → (zipD xs ys).length = min as.length bs.length := fun {xs ys as bs} h1 h2 => by
    unfold zipD; rw [List.length_map, List.length_zip, h1.length, h2.length]
  have prs : ∀ {xs ys : List PyData} {as bs : List V}, RpAll X.K S1 as xs → RpAll X.K S1 bs ys → ∀ (i : Nat) (d : PyData), (zipD xs ys)[i]? = some d → ∃ x y dx dy, as[i]? = some x ∧ bs[i]? = some y ∧ d = .tuple [dx, dy] ∧ Rp X.K S1 x dx ∧ Rp X.K S1 y dy := fun {xs ys as bs} h1 h2 i d hd => by
    obtain ⟨dx, dy, g1, g2, rfl⟩ := zipD_get hd
    obtain ⟨x, k1, k2⟩ := h1.get' g1
    obtain ⟨y, k3, k4⟩ := h2.get' g2
    exact ⟨x, y, dx, dy, k1, k3, rfl, k2, k4⟩
  unfold gZipN at hz
  split at hz
  · cases hz
    obtain ⟨v, w, rfl, r1, r2⟩ := rp1.two_inv
    obtain ⟨a, xs, rfl, g1, h1⟩ := r1.lst_inv
    obtain ⟨b, ys, rfl, g2, h2⟩ := r2.tup_inv
    refine ⟨a, b, xs, ys, rfl, rel1.sh.l (SqL.of g1), rel1.sh.t g2, q2 _ S1 H1 rel1 ex1 ?_⟩
    exact wk_pair (walk_zipN (len h1 h2)) (fun H e => ⟨e.l (SqL.of g1), e.t g2⟩) (prs h1 h2)
  · cases hz
end DL
/-! while; xs.pop(k) of a list of one's own; x, y = list(e), [] -/
namespace DL
open PySem L2
def whileM (t : M Bool) (f : M Fl) : Nat → M Fl
  | 0 => fun _ => .bad
  | n + 1 => t >>= fun b => if b = true then f >>= fun fl => (match fl with
      | .nx => whileM t f n
      | .ct => whileM t f n
      | .bk => pure .nx
      | .rt d => pure (.rt d)
      | .rl ds => pure (.rl ds) : M Fl)
    else pure .nx
section
variable {X : Cx} {W : WX}
theorem ds_while {c : Expr} {body : List Stmt} {t : M Bool} {f : M Fl} {pos : Pos} (n : Nat) (cx : Ctx X W) (hc : DT X W c t) (hb : DSs X W body f) : DS X W (.While c body [] pos) (whileM t f n) := by
  refine PS_mono (ps_while cx.po hc hb) fun D σ H ⟨F, P, S, env, rel, post⟩ => ?_
  refine ⟨fun m σ H => ∃ S2 e2, RelE X.K X.mg F P S2 H σ e2 ∧ Ex S S2 ∧ PostS X W F P S (whileM t f m e2) fun fl e => FlOk X F P S D e fl, ⟨n, S, env, rel, Ex.refl S, post⟩, ?_⟩
  rintro m σ2 H2 ⟨S2, e2, rel2, ex2, post2⟩
  cases m with
  | zero => exact post2.elim
  | succ m =>
    have post3 : PostS X W F P S ((t e2).then fun b => if b = true then f >>= fun fl => (match fl with
      | .nx => whileM t f m
      | .ct => whileM t f m
      | .bk => pure .nx
      | .rt d => pure (.rt d)
      | .rl ds => pure (.rl ds) : M Fl) else pure .nx) fun fl e => FlOk X F P S D e fl := post2
    refine ⟨F, P, S2, e2, rel2, (PostS.stepE (σ := σ2) post3 fun b e3 q => q).mono ex2 fun b e3 p S3 H3 rel3 ex3 => ?_⟩
    cases b with
    | false =>
      rw [if_neg Bool.false_ne_true] at p ⊢
      exact p σ2 S3 H3 rel3 (ex2.trans ex3)
    | true =>
      rw [if_pos rfl] at p ⊢
      refine ⟨fun σ' H' => ∃ S4 e4, RelE X.K X.mg F P S4 H' σ' e4 ∧ Ex S S4 ∧ PostS X W F P S (whileM t f m e4) fun fl e => FlOk X F P S D e fl, fun σ' H' q => ⟨m, Nat.lt_succ_self m, q⟩, ?_⟩
      refine ⟨F, P, S3, e3, rel3, PostS.mono (PostS.step p fun fl e5 z => z) (ex2.trans ex3) fun fl e5 z => ?_⟩
      have ex4 := ex2.trans ex3
      cases fl with
      | nx => exact fun σ5 S5 H5 r5 x5 => ⟨S5, e5, r5, ex4.trans x5, z⟩
      | ct => exact fun σ5 S5 H5 r5 x5 => ⟨S5, e5, r5, ex4.trans x5, z⟩
      | bk => exact fun σ5 S5 H5 r5 x5 => z σ5 S5 H5 r5 (ex4.trans x5)
      | rt d => exact fun v σ5 S5 H5 r5 x5 => z v σ5 S5 H5 r5 (ex4.trans x5)
      | rl d => exact fun p xs σ5 S5 H5 r5 x5 => z p xs σ5 S5 H5 r5 (ex4.trans x5)
/-- xs.pop(k) -/
def M.pop (i : Nat) (k : PyData) : M PyData := fun e => match e[i]?, k with
  | some (some (.mt b (.lst ds))), .int j => if 0 ≤ j ∧ j < ds.length ∧ j < 4611686018427387904 then (match ds[j.toNat]? with
    | some d => .ok d (e.set i (some (.lis b (ds.eraseIdx j.toNat))))
    | none => .bad) else .bad
  | _, _ => .bad
theorem RpAll.erase {K : PySem.W.Frag} {S : Hp} : ∀ {xs : List V} {ds : List PyData} (k : Nat), RpAll K S xs ds → RpAll K S (xs.eraseIdx k) (ds.eraseIdx k)
  | _, _, _, .nil => .nil
  | _, _, 0, .cons h r => r
  | _, _, k + 1, .cons h r => .cons h (RpAll.erase k r)
theorem de_pop {i : Nat} {x : Str} {e : Expr} {f : M PyData} {xp apos cpos : Pos} (h : DE X W e f) (hN : X.N[i]? = some x := by rfl) (hv : Vis X.env.scope x := by first | exact Or.inl rfl | exact Or.inr (Or.inl rfl) | exact Or.inr (Or.inr rfl))
    (hd : (x == ("__debug__" : Str)) = false := by decide) (hcd : (x == ("__classdict__" : Str)) = false := by decide)
    (hs : starEach [e] X.env = (false, eval e X.env) :: starEach [] X.env := by rfl)
    (hbase : attributeBase (.Name x xp) "pop" X.env (eval (.Name x xp) X.env) = eval (.Name x xp) X.env := by rfl)
    (hfew : ((backTo cpos (starEach [e] X.env)).all (fun x => !x.1) && (backToKw cpos (keywordEach [] X.env)).all (fun x => x.1.isSome)
      && decide ([e].length + ([] : List Keyword).length + (if ([] : List Keyword).isEmpty then 0 else 1) < 30)) = true := by rfl)
    (hline : (apos.endLine == cpos.line) = true := by rfl) (hplain : (backTo cpos (starEach [] X.env)).any (·.1) = false := by rfl) :
    DE X W (.Call (.Attribute (.Name x xp) "pop" apos) [e] [] cpos) (M.ownL i >>= fun _ => f >>= fun k => M.pop i k) := by
  refine PE_mono (pe_bm PySem.F.plainAttrs_list PySem.F.slot_list_pop PySem.F.type_list_pop mt_popAt (pe_var hN hv hd hcd) (pa_cons h pa_nil hs) hbase hfew hline hs hplain) fun σ H Q ⟨F, P, S, env, rel, post⟩ => ?_
  obtain ⟨p, xs, h1, h2, post⟩ := Post.ownL rel post
  refine ⟨.ref p, h1, .inl ⟨rfl, xs, SqL.of h2⟩, F, P, S, env, rel, Post.step post fun d e q v S1 H1 rel1 ex1 rp1 => ?_⟩
  unfold M.pop at q
  split at q
  · rename_i b ds j he
    split at q
    · rename_i hj
      split at q
      · rename_i d hdd
        obtain ⟨p', xs', g1, g2, g3, g4, g5, g6⟩ := rel1.lis he
        rw [h1] at g1; cases g1
        obtain ⟨w, h3, h4⟩ := g5.get' hdd
        have hsx : seqIndex? j xs'.length = some j.toNat := by
          unfold seqIndex?
          have hl := g5.length
          have n1 : ¬ j < 0 := by omega
          simp only [if_neg n1]
          rw [if_pos (by simp only [Bool.and_eq_true, decide_eq_true_eq]; omega)]
        have := q w S1 _ (rel1.write he h1 (g5.erase j.toNat)) ex1 h4
        exact ⟨p, xs', j, j.toNat, w, rfl, by rw [rp1.int_inv], g2, by omega, by omega, hsx, h3, this⟩
      · exact q.elim
    · exact q.elim
  · exact q.elim
def gListI : List PyData → Option (List PyData)
  | [.list ds] => some ds
  | [.tuple ds] => some ds
  | _ => none
/-- x, y = list(a), [] -/
theorem ds_parLL {i j : Nat} {x y : Str} {a : Expr} {f : M (List PyData)} {p lp px py pt pos pl : Pos} {kt k2 pt2} (hc : X.calm = true) (hN : X.N.Nodup) (hm : X.mg "list" = none) (ha : DA X W [a] f) (hg : Gl X "list" := by rfl) (hi : X.N[i]? = some x := by rfl) (hj : X.N[j]? = some y := by rfl) (hij : i ≠ j := by decide)
    (hx : X.env.scope.names.lookup x = some .local := by rfl) (hy : X.env.scope.names.lookup y = some .local := by rfl)
    (he : starEach [a] X.env = (false, eval a X.env) :: starEach [] X.env := by rfl) (hpl : (backTo lp (starEach [] X.env)).any (·.1) = false := by rfl)
    (hst : starEach [.Call (.Name "list" p) [a] [] lp, .List [] pl] X.env = (false, eval (.Call (.Name "list" p) [a] [] lp) X.env) :: starEach [.List [] pl] X.env := by rfl) (hst2 : starEach [.List [] pl] X.env = (false, eval (.List [] pl) X.env) :: starEach [] X.env := by rfl)
    (hw : swappedStores [.Tuple [.Name x px, .Name y py] kt pt] (.Tuple [.Call (.Name "list" p) [a] [] lp, .List [] pl] k2 pt2) X.env = pure (some [x, y]) := by rfl)
    (hs : swapsWithSole [.Tuple [.Name x px, .Name y py] kt pt] (.Tuple [.Call (.Name "list" p) [a] [] lp, .List [] pl] k2 pt2) pos.line X.env = pure false := by rfl) :
    DS X W (.Assign [.Tuple [.Name x px, .Name y py] kt pt] (.Tuple [.Call (.Name "list" p) [a] [] lp, .List [] pl] k2 pt2) pos) (f >>= fun ds => M.lift (gListI ds) >>= fun xs => M.setL i xs >>= fun _ => M.setL j [] >>= fun _ => pure .nx) := by
  refine PS_mono (ps_par hc hN hi hj hij hx hy (pa_cons (pe_callTy call_list_of hg hm bt_list ha (by decide) (by decide) he hpl) (pa_cons (pe_lst pa_nil) pa_nil hst2) hst) hw hs) fun D σ H ⟨F, P, S, env, rel, post⟩ => ?_
  refine ⟨F, P, S, env, rel, PostS.stepE post fun ds e q vs S1 H1 rel1 ex1 rp1 => ?_⟩
  obtain ⟨zs, hz, q2⟩ := (PostS.step q (R' := fun xs e2 => _) fun xs e2 z => z).lift
  unfold gListI at hz
  split at hz
  · cases hz
    obtain ⟨v, rfl, r⟩ := rp1.one_inv
    obtain ⟨a, xs, rfl, g1, r1⟩ := r.lst_inv
    refine ⟨a, xs, rfl, .inl (rel1.sh.l (SqL.of g1)), fun l hl => ⟨Nat.zero_le _, fun p hp => ⟨.ref l, .ref p, rfl, ?_⟩⟩⟩
    exact q2 _ S1 _ ((rel1.setMt (o := .lst xs) (m := .lst zs) hl r1).setMt (m := .lst []) hp .nil) ex1
  · cases hz
    obtain ⟨v, rfl, r⟩ := rp1.one_inv
    obtain ⟨a, xs, rfl, g1, r1⟩ := r.tup_inv
    refine ⟨a, xs, rfl, .inr (rel1.sh.t g1), fun l hl => ⟨Nat.zero_le _, fun p hp => ⟨.ref l, .ref p, rfl, ?_⟩⟩⟩
    exact q2 _ S1 _ ((rel1.setMt (o := .lst xs) (m := .lst zs) hl r1).setMt (m := .lst []) hp .nil) ex1
  · cases hz
end
end DL
/-! len(xs) and xs != [] of a list of one's own, which stays so -/
namespace DL
open PySem L2
section
variable {X : Cx} {W : WX}
def M.lenL (i : Nat) : M PyData := fun e => match e[i]? with
  | some (some (.mt _ (.lst ds))) => .ok (.int ds.length) e
  | _ => .bad
theorem de_lenL {i : Nat} {x : Str} {xp p pos : Pos} (hm : X.mg "len" = none) (hN : X.N[i]? = some x := by rfl) (hv : Vis X.env.scope x := by first | exact Or.inl rfl | exact Or.inr (Or.inl rfl) | exact Or.inr (Or.inr rfl))
    (hd : (x == ("__debug__" : Str)) = false := by decide) (hcd : (x == ("__classdict__" : Str)) = false := by decide) (hg : Gl X "len" := by rfl)
    (hs : starEach [.Name x xp] X.env = (false, eval (.Name x xp) X.env) :: starEach [] X.env := by rfl) (hpl : (backTo pos (starEach [] X.env)).any (·.1) = false := by rfl) :
    DE X W (.Call (.Name "len" p) [.Name x xp] [] pos) (M.lenL i) := by
  refine PE_mono (pe_callB call_len hg hm bt_len (pa_cons (pe_var hN hv hd hcd) pa_nil hs) (by decide) (by decide) hs hpl) fun σ H Q ⟨F, P, S, env, rel, post⟩ => ?_
  unfold M.lenL at post
  split at post
  · rename_i b ds he
    obtain ⟨p', xs', g1, g2, g3, g4, g5, g6⟩ := rel.lis he
    refine ⟨.ref p', g1, _, _, rfl, .inl ⟨xs', SqL.of g2, rfl⟩, ?_⟩
    rw [g5.length]
    exact post (.int _) S H rel (Ex.refl S) (.int _)
  · exact post.elim
def M.nonE (i : Nat) : M Bool := fun e => match e[i]? with
  | some (some (.mt _ (.lst ds))) => if simple (.list ds) = true then .ok (!ds.isEmpty) e else .bad
  | _ => .bad
theorem dt_nonE {i : Nat} {x : Str} {xp lp pos : Pos} (hu : X.A.units + 64 < cLine) (hN : X.N[i]? = some x := by rfl) (hv : Vis X.env.scope x := by first | exact Or.inl rfl | exact Or.inr (Or.inl rfl) | exact Or.inr (Or.inr rfl))
    (hd : (x == ("__debug__" : Str)) = false := by decide) (hcd : (x == ("__classdict__" : Str)) = false := by decide) (hm : behindInMarks .NotEq (.List [] lp) = false := by first | exact nobehind _ (by decide) (by decide) | rfl) :
    DT X W (.Compare (.Name x xp) [.NotEq] [.List [] lp] pos) (M.nonE i) := by
  refine PT_mono (pt_cmpR (op_neD hu) (pe_var hN hv hd hcd) (pe_lst pa_nil) hm) fun σ H Q ⟨F, P, S, env, rel, post⟩ => ?_
  unfold M.nonE at post
  split at post
  · rename_i b ds he
    split at post
    · rename_i hsim
      obtain ⟨p', xs', g1, g2, g3, g4, g5, g6⟩ := rel.lis he
      refine ⟨.ref p', g1, Nat.zero_le _, fun p2 hp2 => ?_⟩
      have gr := Grow.new (K := X.K) (o := .lst []) rel.sh hp2
      have ex0 : Ex S (upd S p' (.lst xs')) := Ex.new g3
      have r1 : Rp X.K (upd S p' (.lst xs')) (.ref p') (.list ds) := .lst upd_same (g5.mono ex0)
      have ex1 : Ex (upd S p' (.lst xs')) H := fun a o h => by
        by_cases q : a = p'
        · subst q; rw [upd_same] at h; cases h; exact g2
        · rw [upd_ne q] at h; exact rel.sh a o h
      have r2 : Rp X.K (upd (upd S p' (.lst xs')) p2 (.lst [])) (.ref p2) (.list []) := .lst upd_same .nil
      have gr2 := Grow.new (K := X.K) (o := .lst []) ex1 hp2
      obtain ⟨a1, a2⟩ := (r1.mono gr2.ss).eqd gr2.sh hsim
      obtain ⟨b1, b2⟩ := r2.eqd gr2.sh (by decide)
      refine ⟨.list ds, .list [], a1, b1, a2, b2, _, rfl, ?_⟩
      have e : (!PyData.eqv (.list ds) (.list [])) = !ds.isEmpty := by cases ds <;> simp [PyData.eqv, PyData.eqvAll]
      rw [e]
      exact post _ _ (rel.grow gr) gr.ss
    · exact post.elim
  · exact post.elim
end
end DL
/-! sorted(xs) of tuples that can be compared up to the first place that differs -/
namespace DL
open PySem PySem.W PySem.SeqAt PySem.Calls PyProof.Rows L2
/-- alike up to the first place that differs -/
def alikeP : List PyData → List PyData → Bool
  | x :: xs, y :: ys => alike x y && (!PyData.eqv x y || alikeP xs ys)
  | _, _ => true
theorem alikeP_cons {x y : PyData} {xs ys : List PyData} (h : alikeP (x :: xs) (y :: ys) = true) : alike x y = true ∧ (PyData.eqv x y = true → alikeP xs ys = true) := by
  simp only [alikeP, Bool.and_eq_true, Bool.or_eq_true, Bool.not_eq_true'] at h
  refine ⟨h.1, fun e => ?_⟩
  rcases h.2 with z | z
  · rw [e] at z; cases z
  · exact z
theorem alikeP_unique {h : Heap} : ∀ (xs ys : List PyData) (vs : List Value) (as as' : List Addr), alikeP xs ys = true → ReadsAll h vs xs as → ReadsAll h vs ys as' → xs = ys
  | [], _, _, _, _, _, r, r' => by cases r; cases r'; rfl
  | x :: xs, [], _, _, _, _, r, r' => by cases r'; cases r
  | x :: xs, y :: ys, _, _, _, ha, r, r' => by
    cases r with
    | cons h1 h2 =>
      cases r' with
      | cons k1 k2 =>
        obtain ⟨a1, a2⟩ := alikeP_cons ha
        have e := alike_unique x y _ _ _ a1 h1 k1
        subst e
        rw [alikeP_unique xs ys _ _ _ (a2 (eqv_refl_alike x a1)) h2 k2]
/-- tuples with an item at least, every two of them so alike -/
def AllP (ds : List PyData) : Prop := (∀ d, d ∈ ds → ∃ x r, d = .tuple (x :: r)) ∧ ∀ xs ys, .tuple xs ∈ ds → .tuple ys ∈ ds → alikeP xs ys = true
theorem dataKind_someP {h : Heap} {ds : List PyData} (hal : AllP ds) {v : Value} {d : PyData} {as : List Addr} (hd : d ∈ ds) (r : Reads h v d as) : (dataKind h ds).keyOf v = some (keyToks d) := by
  have q : ∃ d, d ∈ ds ∧ ∃ as, Reads h v d as := ⟨d, hd, as, r⟩
  have e : (dataKind h ds).keyOf v = some (keyToks q.choose) := by
    show (open Classical in if q : ∃ d, d ∈ ds ∧ ∃ as, Reads h v d as then some (keyToks q.choose) else none) = _
    rw [dif_pos q]
  obtain ⟨h1, as', h2⟩ := q.choose_spec
  rw [e]
  generalize q.choose = d' at h1 h2
  obtain ⟨x, xs, rfl⟩ := hal.1 _ hd
  obtain ⟨y, ys, rfl⟩ := hal.1 _ h1
  cases r with
  | @tuple l o vs n _ as₁ a1 a2 a3 a4 =>
    cases h2 with
    | @tuple l' o' vs' n' _ bs₁ k1 k2 k3 k4 =>
      rw [a1] at k1; cases k1
      rw [a3] at k3; cases k3
      rw [alikeP_unique _ _ _ _ _ (hal.2 _ _ hd h1) a4 k4]
section
variable {prog : Program} {w : World} {A : Around} {s : Shared}
theorem katLex_pre {b fin : Bool} {Q : Bool → Shared → Prop} : ∀ (xs ys : List PyData) (i : Nat) (vs ws : List Value) (as bs : List Addr), ReadsAll s.heap vs xs as → ReadsAll s.heap ws ys bs → alikeP xs ys = true →
    A.units + min (PyData.depthAll xs) (PyData.depthAll ys) < cLine → (b = true → i = 0 → ∀ x r t, xs = x :: r → x ≠ .tuple t) → fin = decide (xs.length < ys.length) → Q (PyProof.Rows.lexLt itemOrd (keyToksAll xs) (keyToksAll ys)) s → KatLex prog w A b fin Q (vs.zip ws) i s
  | [], [], i, _, _, _, _, ra, rb, _, _, _, hf, hq => by
    cases ra
    cases rb
    have e : fin = false := by rw [hf]; rfl
    subst e
    rw [lex_irrefl] at hq
    exact kat_nil hq
  | [], y :: ys, i, _, _, _, _, ra, rb, _, _, _, hf, hq => by
    cases ra
    have e : fin = true := by rw [hf]; exact decide_eq_true (Nat.succ_pos _)
    subst e
    rw [toks_all_cons] at hq
    simp only [keyToksAll] at hq
    rw [lex_diff (O := itemOrd) (by simp)] at hq
    rw [List.zip_nil_left]
    exact kat_nil (by simpa [itemLt] using hq)
  | x :: xs, [], i, _, _, _, _, ra, rb, _, _, _, hf, hq => by
    cases rb
    have e : fin = false := by rw [hf]; exact decide_eq_false (Nat.not_lt_zero _)
    subst e
    rw [toks_all_cons] at hq
    simp only [keyToksAll] at hq
    rw [lex_diff (O := itemOrd) (by simp)] at hq
    rw [List.zip_nil_right]
    exact kat_nil (by simpa [itemLt] using hq)
  | x :: xs, y :: ys, i, _, _, _, _, ra, rb, h, hu, hb, hf, hq => by
    obtain ⟨h1, h2⟩ := alikeP_cons h
    have hf' : fin = decide (xs.length < ys.length) := by
      rw [hf]
      simp only [List.length_cons, Nat.add_lt_add_iff_right]
    cases ra with
    | cons r rs =>
      cases rb with
      | cons r' rs' =>
        rw [List.zip_cons_cons]
        refine kat_cons (eqAt_alike x y A s _ _ _ _ r r' h1 (room_head hu) prog w _ _ ?_)
        cases hx : PyData.eqv x y with
        | true =>
          rw [dataLt_all_yes h1 hx] at hq
          exact kat_yes (katLex_pre xs ys (i + 1) _ _ _ _ rs rs' (h2 hx) (room_tail hu) (fun _ hi => absurd hi (Nat.succ_ne_zero i)) hf' hq)
        | false =>
          rw [dataLt_all_no h1 hx] at hq
          refine kat_no (oneLt_alike (fun hbi t => ?_) r r' h1 (ne_none_of h1 hx) (room_head hu) hq)
          rw [Bool.and_eq_true] at hbi
          exact hb hbi.1 (by simpa using hbi.2) x xs t rfl
theorem sortsP {vs : List Value} {ds : List PyData} (e : EachIs (fun v d => ∃ as, Reads s.heap v d as) vs ds) (hal : AllP ds) (hu : ∀ d, d ∈ ds → A.units + d.depth < cLine) : SortsAt prog w A s (dataKind s.heap ds) vs := by
  have room : ∀ {d d' : PyData}, d ∈ ds → A.units + min d.depth d'.depth < cLine := fun {d d'} hd => Nat.lt_of_le_of_lt (Nat.add_le_add_left (Nat.min_le_left _ _) _) (hu d hd)
  refine ⟨fun v hv => ?_, ?_⟩
  · obtain ⟨d, hd, as, r⟩ := e.left v hv
    exact ⟨_, dataKind_someP hal hd r⟩
  · cases ds with
    | nil =>
      cases e
      exact ⟨general', fun E x y a b Q ha _ _ => (by
        obtain ⟨d, _, hd, _⟩ := dataKind_inv ha
        exact absurd hd (by simp)), fun h2 => absurd h2 (by simp)⟩
    | cons d₀ ds₀ =>
      have ht := hal.1
      obtain ⟨x₀, r₀, e₀⟩ := ht d₀ (List.mem_cons_self ..)
      have hfirst : ∀ x r, PyData.tuple (x :: r) ∈ d₀ :: ds₀ → alike x x₀ = true := by
        intro x r hm
        have q := hal.2 (x :: r) (x₀ :: r₀) hm (by rw [← e₀]; exact List.mem_cons_self ..)
        exact (alikeP_cons q).1
      refine ⟨tuples' (dataType x₀ != Value.type "tuple"), ?_, fun h2 E Q hq => ?_⟩
      · intro E x y a b Q ha hb hq
        obtain ⟨d, as, hd, ra, rfl⟩ := dataKind_inv ha
        obtain ⟨d', as', hd', rb, rfl⟩ := dataKind_inv hb
        have hroom := room (d' := d') hd
        obtain ⟨x1, r1, rfl⟩ := ht d hd
        obtain ⟨x2, r2, rfl⟩ := ht d' hd'
        have hdd := hal.2 _ _ hd hd'
        have hq' : Q (dataLt (.tuple (x1 :: r1)) (.tuple (x2 :: r2))) s := hq
        rw [dataLt_tuple] at hq'
        cases ra with
        | @tuple l o xs n _ _ h1 h2 h3 h4 =>
          cases rb with
          | @tuple l' o' xs' n' _ _ k1 k2 k3 k4 =>
            have n1 : xs.size = (x1 :: r1).length := by simpa using SeqAt.ReadsAll.length _ _ _ h4
            have n2 : xs'.size = (x2 :: r2).length := by simpa using SeqAt.ReadsAll.length _ _ _ k4
            refine kat_lt h1 h3 k1 k3 (katLex_pre (x1 :: r1) (x2 :: r2) 0 _ _ _ _ h4 k4 hdd (by have q := SeqAt.room_in hroom; omega) (fun hb _ x r t ex => ?_) (by rw [n1, n2]) hq')
            obtain ⟨rfl, rfl⟩ := List.cons.inj ex
            have q := dataType_alike (hfirst _ _ hd)
            rw [← q] at hb
            exact dataType_tuple hb t
      · obtain ⟨fs, t1, t2, t3⟩ := each_katTups e ht
        refine kat_kind (T := dataType x₀) t1 (by omega) (fun f hf => ?_) (beq_self_eq_true _) hq
        obtain ⟨x, r, as, m1, m2⟩ := t3 f hf
        rw [← dataType_alike (hfirst x r m1)]
        exact looks_reads m2
end
theorem each_keysP {h : Heap} {ds : List PyData} (hal : AllP ds) {vs : List Value} (e : EachIs (fun v d => ∃ as, Reads h v d as) vs ds) : EachIs (fun v d => (dataKind h ds).keyOf v = some (keyToks d)) vs ds :=
  (each_mem e).mono fun _ _ ⟨⟨_, r⟩, hm⟩ => dataKind_someP hal hm r
section
variable {prog : Program} {w : World} {A : Around} {E : Value → Shared → Prop} {s : Shared} {vs : List Value} {ds : List PyData} {R : Value → PyData → Prop}
theorem sorted_dataP {l : Addr} {Q : Value → Shared → Prop} (hl : s.heap.IsList l vs.toArray) (e : EachIs R vs ds) (er : EachIs (fun v d => ∃ as, Reads s.heap v d as) vs ds) (hal : AllP ds) (hL : ds.length ≤ sizeLine)
    (hu : ∀ d, d ∈ ds → A.units + 2 + d.depth < cLine) (h : ∀ out, out.length = ds.length → EachIs R out (ds.mergeSort (dataLe false id)) → Q (.ref (s.heap.objs.size + 1)) { s with heap := sortedAll s.heap vs (List.toArray out) }) :
    wpAny (model prog w) A (call (.builtin "sorted") [.ref l]) Q E s := by
  have er' : EachIs (fun v d => ∃ as, Reads (sortingHeap (copyHeap s.heap vs) (s.heap.objs.size + 1) vs) v d as) vs ds := er.mono fun _ _ ⟨as, r⟩ => ⟨as, PyProof.Rows.Reads.keeps (fun _ _ => sorting_copy_old) r⟩
  exact sorted_vals hl (sortsP (s := { s with heap := sortingHeap (copyHeap s.heap vs) (s.heap.objs.size + 1) vs }) er' hal hu) (by rw [e.length]; exact hL)
    (h _ (by rw [sortVals_length false rfl]; exact e.length) (sortVals_each (κ := dataKind (sortingHeap (copyHeap s.heap vs) (s.heap.objs.size + 1) vs) ds) (fun d => keyToks d) e (each_keysP hal er')))
end
def sortOkP (ds : List PyData) : Bool := ds.all tup1 && (ds.all fun d => ds.all fun d' => match d, d' with
    | .tuple xs, .tuple ys => alikeP xs ys
    | _, _ => true) && noDicts ds && (ds.all fun d => decide (d.depth ≤ 60)) && decide (ds.length ≤ sizeLine)
def gSortP : List PyData → Option PyData
  | [.list ds] => if sortOkP ds = true then some (.list (dSort ds)) else none
  | _ => none
theorem allP_of {ds : List PyData} (h : ds.all tup1 = true) (h2 : (ds.all fun d => ds.all fun d' => match d, d' with
    | .tuple xs, .tuple ys => alikeP xs ys
    | _, _ => true) = true) : AllP ds := by
  refine ⟨fun d hd => ?_, fun xs ys hx hy => ?_⟩
  · have := List.all_eq_true.mp h d hd
    unfold tup1 at this
    split at this
    · exact ⟨_, _, rfl⟩
    · cases this
  · exact List.all_eq_true.mp (List.all_eq_true.mp h2 _ hx) _ hy
section
variable {X : Cx} {W : WX}
def rSortP (K : PySem.W.Frag) : List V → Hp → VK → Prop := fun vs H Q => ∃ (a : Addr) (xs : List V) (ds : List PyData) (S : Hp), vs = [V.ref a] ∧ Ex S H ∧ SqL K H a xs ∧ RpAll K S xs ds ∧ sortOkP ds = true ∧
  ∀ ys p, RpAll K S ys (dSort ds) → H p = none → Q (.ref p) (upd H p (.lst ys))
theorem cr_sortP (hu : X.A.units + 64 < cLine) : CallR X (.builtin "sorted") (rSortP X.K) := by
  intro pins s σ H vs us Q I r h
  obtain ⟨a, xs, ds, S, rfl, ex, hs, rx, ok, q⟩ := h
  obtain ⟨its, rv, hl, hz⟩ := I.list hs
  rw [Vals.ref1 r]
  simp only [sortOkP, Bool.and_eq_true, decide_eq_true_eq] at ok
  obtain ⟨⟨⟨⟨o1, o2⟩, o3⟩, o4⟩, o5⟩ := ok
  obtain ⟨as, hr⟩ := Dp.readsAll I ds xs its (DpAll.mono' ex (RpAll.dp rx o3).1) rv
  refine sorted_dataP (R := IsD X.K S) hl.isList (each_isD rv rx) (by simpa using each_reads hr) (allP_of o1 o2) o5 (fun d hd => ?_) fun out ho hout => ?_
  · have := List.all_eq_true.mp o4 d hd
    rw [decide_eq_true_eq] at this
    omega
  · obtain ⟨ys, h1, h2⟩ := isD_each hout
    obtain ⟨ep, he'⟩ := PyProof.Rows.sortedAll_at s.heap its out.toArray
    have hlen : ys.length ≤ sizeLine := by rw [h1.length, ho]; exact o5
    exact ⟨.ref _, upd H (s.heap.objs.size + 1) (.lst ys), I.laid (t' := s.toks) (fun _ _ => PyProof.Rows.sortedAll_old) (Nat.le_succ _) ⟨hlen, out, ep, h1, by simpa using he'⟩, rfl, q ys _ h2 (I.hok.fresh (Nat.le_succ _))⟩
theorem c_sortP (hu : X.A.units + 64 < cLine) : CallD X (.builtin "sorted") gSortP := by
  refine ⟨_, cr_sortP hu, fun S H xs ds dz Q e rx eq p => ?_⟩
  unfold gSortP at eq
  split at eq
  · split at eq
    · rename_i ds ok
      cases eq
      obtain ⟨v, rfl, r⟩ := rx.one_inv
      obtain ⟨a, vs, rfl, g1, r1⟩ := r.lst_inv
      refine ⟨a, vs, ds, S, rfl, e, e.l (SqL.of g1), r1, ok, fun ys p' h1 h2 => ?_⟩
      exact p _ _ _ (Grow.new e h2) (.lst upd_same (h1.mono (Ex.new (e.back h2))))
    · cases eq
  · cases eq
end
end DL
/-! {} and {k: v} as data; repr of data with dicts and without lists; x = x + [..] of a list of one's own -/
namespace DL
open PySem PySem.Builtin L2 PyProof.Rows
section
variable {X : Cx} {W : WX}
theorem de_dict0 {pos : Pos} : DE X W (.Dict [] [] pos) (pure (.dict [])) := by
  refine PE_mono pe_dnewK fun σ H Q ⟨F, P, S, env, rel, post⟩ => ?_
  intro p hp
  have gr := Grow.new (K := X.K) (o := .dK []) rel.sh hp
  exact post (.ref p) _ _ (rel.grow gr) gr.ss (.dct (Rd.of upd_same) .nil)
theorem de_dictC {k v : Int} {i j : Nat} {p1 p2 pos : Pos} : DE X W (.Dict [some (.Constant (.int k) i p1)] [.Constant (.int v) j p2] pos) (pure (.dict [(.int k, .int v)])) := by
  refine PE_mono (pe_disp (pps_cons pe_int pe_int pps_nil) rfl rfl (by simp) (by simp)) fun σ H Q ⟨F, P, S, env, rel, post⟩ => ?_
  intro p hp
  have gr := Grow.new (K := X.K) (o := .dK [(.inl k, .int v)]) rel.sh hp
  refine ⟨upd_same, [(.inl k, .int v)], rfl, by simp, ?_⟩
  have e : upd (upd H p (.dK [])) p (.dK (mergeK [] [(.inl k, .int v)])) = upd H p (.dK [(.inl k, .int v)]) := by
    funext q
    by_cases h : q = p
    · subst h; rw [upd_same, upd_same]; rfl
    · rw [upd_ne h, upd_ne h, upd_ne h]
  rw [e]
  exact post (.ref p) _ _ (rel.grow gr) gr.ss (.dct (Rd.of upd_same) (.cons (.int v) .nil))
end
/-! ### repr -/
mutual
def noList : PyData → Bool
  | .list _ => false
  | .tuple ds => noLists ds
  | .dict kvs => flatKv kvs
  | _ => true
def noLists : List PyData → Bool
  | [] => true
  | d :: ds => noList d && noLists ds
def flatKv : List (PyData × PyData) → Bool
  | [] => true
  | p :: r => flat p.1 && flat p.2 && flatKv r
end
section
variable {X : Cx} {pins : List (Addr × Obj)} {σ : L2.St} {H : Hp} {s : Shared}
theorem Rp.flat_reads {K : PySem.W.Frag} {S : Hp} {h : Heap} {v : V} {u : Value} {d : PyData} (r : Rp K S v d) (rv : RelV v u) (hf : DL.flat d = true) : Reads h u d [] := by
  cases r with
  | non => cases rv; exact .none
  | bl b => cases rv; exact .bool b
  | int i => obtain ⟨t, rfl⟩ := rv; exact .int i t
  | str x _ => obtain ⟨t, rfl⟩ := rv; exact .str x t
  | _ => cases hf
theorem kv_reads {K : PySem.W.Frag} {S : Hp} {h : Heap} : ∀ {kvs : List (Key × V)} {ds : List (PyData × PyData)} {vs : List (Key × Value)} {es : List DictEntry}, RpKv K S kvs ds → KV kvs vs → Pairs (mixKind X.prog X.w) es vs → flatKv ds = true →
    ReadsAll h (es.map (·.key)) (ds.map (·.1)) [] ∧ ReadsAll h (es.map (·.val)) (ds.map (·.2)) []
  | _, _, _, _, .nil, .nil, .nil, _ => ⟨.nil, .nil⟩
  | _, _, _, _, .cons (k := k) r rr, .cons hp t, .cons hk hv pr, hf => by
    simp only [flatKv, Bool.and_eq_true] at hf
    obtain ⟨a1, a2⟩ := kv_reads rr t pr hf.2
    have e := hp.1
    refine ⟨.cons (as := []) (bs := []) ?_ a1, .cons (as := []) (bs := []) ?_ a2⟩
    · rw [← e] at hk
      rcases keyIs_shape hk with ⟨i, t, h1, h2⟩ | ⟨x, t, h1, h2⟩
      · have h1' : k = .inl i := h1
        subst h1'
        dsimp only; rw [h2]; exact .int i t
      · have h1' : k = .inr x := h1
        subst h1'
        dsimp only; rw [h2]; exact .str x t
    · dsimp only
      rw [hv]
      exact r.flat_reads hp.2 hf.1.2
mutual
theorem Rp.readsD {S : Hp} (I : Inv X pins σ H s) (ex : Ex S H) : ∀ (d : PyData) (v : V) (u : Value), Rp X.K S v d → RelV v u → noList d = true → ∃ as, Reads s.heap u d as ∧ sysModules ∉ as
  | .none, _, _, h, r, _ => ⟨[], h.flat_reads r rfl, by simp⟩
  | .bool b, _, _, h, r, _ => ⟨[], h.flat_reads r rfl, by simp⟩
  | .int i, _, _, h, r, _ => ⟨[], h.flat_reads r rfl, by simp⟩
  | .str x, _, _, h, r, _ => ⟨[], h.flat_reads r rfl, by simp⟩
  | .list ds, _, _, _, _, n => by cases n
  | .tuple ds, _, _, h, r, n => by
    obtain ⟨a, xs, rfl, g1, r1⟩ := h.tup_inv
    cases r
    obtain ⟨its, rv, ⟨o, ho, hc, m, hd⟩, _⟩ := I.tuple (ex.t g1)
    obtain ⟨as, hr, ha⟩ := Rp.readsDs I ex ds xs its r1 rv (by simpa [noList] using n)
    exact ⟨as, .tuple ho hc hd (by simpa using hr), ha⟩
  | .dict ds, _, _, h, r, n => by
    cases h with
    | @dct a kvs _ h1 h2 =>
      cases r
      obtain ⟨z, hsm, vs, kv, o, es, ep, ho, hex, hd, _, hp, _⟩ := (ex.rd h1).ok I.hok
      obtain ⟨q1, q2⟩ := kv_reads (X := X) (h := s.heap) h2 kv hp (by simpa [noList] using n)
      refine ⟨[a], ?_, ?_⟩
      · exact .dict (as := []) (bs := []) ho hex.1 hd q1 q2
      · intro hm
        have : sysModules = a := by simpa using hm
        rw [← this] at hsm
        simp at hsm
theorem Rp.readsDs {S : Hp} (I : Inv X pins σ H s) (ex : Ex S H) : ∀ (ds : List PyData) (vs : List V) (us : List Value), RpAll X.K S vs ds → Vals vs us → noLists ds = true → ∃ as, ReadsAll s.heap us ds as ∧ sysModules ∉ as
  | [], _, _, h, r, _ => by cases h; cases r; exact ⟨[], .nil, by simp⟩
  | d :: ds, _, _, h, r, n => by
    simp only [noLists, Bool.and_eq_true] at n
    cases h with
    | cons h1 h2 =>
      cases r with
      | cons r1 r2 =>
        obtain ⟨as, q1, a1⟩ := Rp.readsD I ex d _ _ h1 r1 n.1
        obtain ⟨bs, q2, a2⟩ := Rp.readsDs I ex ds _ _ h2 r2 n.2
        exact ⟨as ++ bs, .cons q1 q2, by simp [a1, a2]⟩
end
end
def reprOkD (d : PyData) : Bool := noList d && d.showable && decide (d.depth ≤ 60) && decide (TxOk d.shown)
def gReprD : List PyData → Option PyData
  | [d] => if reprOkD d = true then some (.str d.shown) else none
  | _ => none
section
variable {X : Cx} {W : WX}
theorem cr_reprE (hg : X.A.guards = some []) (hu : X.A.units + 64 < cLine) : CallR X (.builtin "repr") (fun xs H Q => ∃ v d S, xs = [v] ∧ Ex S H ∧ Rp X.K S v d ∧ reprOkD d = true ∧ Q (.str d.shown) H) := by
  intro pins s σ H xs us Q I r h
  obtain ⟨v, d, S, rfl, ex, hd, ok, q⟩ := h
  obtain ⟨u, rfl, rx⟩ := vals1 r
  simp only [reprOkD, Bool.and_eq_true, decide_eq_true_eq] at ok
  obtain ⟨⟨⟨o1, o2⟩, o3⟩, o4, o5⟩ := ok
  obtain ⟨as, hr, ha⟩ := hd.readsD I ex d v u rx o1
  cases hd with
  | non => cases rx; exact PySem.P.repr_of_none ⟨.str _, H, I.tok _, ⟨_, rfl⟩, q⟩
  | bl b => cases rx; exact PySem.P.repr_of_bool ⟨.str _, H, I.tok _, ⟨_, rfl⟩, by cases b <;> exact q⟩
  | int i =>
    obtain ⟨t, rfl⟩ := rx
    exact PySem.P.repr_of_int (by simpa [PyData.showable] using o2) ⟨.str _, H, I.tok _, ⟨_, rfl⟩, q⟩
  | str x _ =>
    obtain ⟨t, rfl⟩ := rx
    exact PySem.P.repr_of_str ⟨.str _, H, I.tok _, ⟨_, rfl⟩, q⟩ (by simpa [PyData.shown] using o4)
  | lst h1 h2 => cases o1
  | tup h1 h2 =>
    cases rx
    exact repr_of_reads' hr o2 (fun _ => ha) hg (by omega) (fun _ _ e => e) (fun h' u tk hk => ⟨.str _, H, I.kept hk, ⟨_, rfl⟩, q⟩) o4
  | dct h1 h2 =>
    cases rx
    exact repr_of_reads' hr o2 (fun _ => ha) hg (by omega) (fun _ _ e => e) (fun h' u tk hk => ⟨.str _, H, I.kept hk, ⟨_, rfl⟩, q⟩) o4
theorem c_reprD (hg : X.A.guards = some []) (hu : X.A.units + 64 < cLine) : CallD X (.builtin "repr") gReprD := by
  refine ⟨_, cr_reprE hg hu, fun S H xs ds dz Q e rx eq p => ?_⟩
  unfold gReprD at eq
  split at eq
  · split at eq
    · rename_i d ok
      cases eq
      obtain ⟨v, rfl, r⟩ := rx.one_inv
      have ok' := ok
      simp only [reprOkD, Bool.and_eq_true, decide_eq_true_eq] at ok'
      exact ⟨v, d, S, rfl, e, r, ok, p.str e ok'.2⟩
    · cases eq
  · cases eq
/-- of data without dicts, or without lists -/
def gReprB (ds : List PyData) : Option PyData := match gReprA ds with
  | some d => some d
  | none => gReprD ds
theorem c_reprB (hg : X.A.guards = some []) (hu : X.A.units + 64 < cLine) : CallD X (.builtin "repr") gReprB := by
  obtain ⟨r1, h1, k1⟩ := c_reprA hg hu
  obtain ⟨r2, h2, k2⟩ := c_reprD hg hu
  refine ⟨_, CallR_or h1 h2, fun S H xs ds dz Q e rx eq p => ?_⟩
  unfold gReprB at eq
  cases hA : gReprA ds with
  | some d =>
    rw [hA] at eq
    cases eq
    exact .inl (k1 S H xs ds _ Q e rx hA p)
  | none =>
    rw [hA] at eq
    exact .inr (k2 S H xs ds _ Q e rx eq p)
/-- x = x + [..] -/
def M.catL (i : Nat) (ds : List PyData) : M Unit := fun e => match e[i]? with
  | some (some (.mt false (.lst cs))) => if ds.length ≤ sizeLine ∧ cs.length + ds.length ≤ sizeLine then .ok () (e.set i (some (.lis false (cs ++ ds)))) else .bad
  | _ => .bad
theorem ds_catL {i : Nat} {x : Str} {es : List Expr} {f : M (List PyData)} {pos pos' xp pl pb : Pos} (hN : X.N.Nodup) (h : DA X W es f) (hi : X.N[i]? = some x := by rfl) (hv : Vis X.env.scope x := by first | exact Or.inl rfl | exact Or.inr (Or.inl rfl) | exact Or.inr (Or.inr rfl)) (hx : Loc X.env.scope x := by first | exact Or.inl rfl | exact Or.inr rfl)
    (hd : (x == ("__debug__" : Str)) = false := by decide) (hcd : (x == ("__classdict__" : Str)) = false := by decide)
    (hs : swapsWith (.BinOp (.Name x xp) .Add (.List es pl) pb) (some (.Name x pos')) pos.line X.env = pure false := by rfl) (hf : X.fn x = true ∨ X.env.scope.names.lookup x = some .local := by first | exact .inl rfl | exact .inr rfl | assumption) :
    DS X W (.Assign [.Name x pos'] (.BinOp (.Name x xp) .Add (.List es pl) pb) pos) (M.ownL i >>= fun _ => f >>= fun ds => M.catL i ds >>= fun _ => pure .nx) := by
  refine PS_mono (ps_set hN hi hx (pe_op op_cat (pe_var hi hv hd hcd) (pe_lst h)) hs hf) fun D σ H ⟨F, P, S, env, rel, post⟩ => ?_
  obtain ⟨p, xs, h1, h2, post⟩ := PostS.ownL rel post
  refine ⟨.ref p, h1, F, P, S, env, rel, PostS.stepE post fun ds e q vs S1 H1 rel1 ex1 rp1 => ?_⟩
  have q2 := PostS.step q (R' := fun (_ : Unit) e2 => FlOk X F P S D e2 .nx) fun _ e2 z => z
  unfold M.catL at q2
  split at q2
  · rename_i cs he
    split at q2
    · rename_i hl
      obtain ⟨p', xs', g1, g2, g3, g4, g5, g6⟩ := rel1.lis he
      rw [h1] at g1; cases g1
      refine ⟨by rw [rp1.length]; exact hl.1, fun p2 hp2 => ?_⟩
      have hne : p2 ≠ p := fun z => by subst z; rw [g2] at hp2; cases hp2
      refine ⟨p, p2, xs', vs, rfl, rfl, by rw [upd_ne (Ne.symm hne)]; exact g2, upd_same, by rw [g5.length, rp1.length]; exact hl.2, fun p3 hp3 => ?_⟩
      have gr := Grow.new (K := X.K) (o := .lst vs) rel1.sh hp2
      have rel2 := rel1.grow gr
      exact q2 _ _ _ (rel2.setMt (o := .lst (xs' ++ vs)) (m := .lst (cs ++ ds)) hp3 ((g5.append rp1).mono gr.ss)) (ex1.trans gr.ss)
    · exact q2.elim
  · exact q2.elim
end
/-! ### a def of which nothing is told -/
section
variable {P : Program} {w : World} {K : PySem.W.Frag} {mg : Str → Option Value} {base : Heap} {CX : CXT} {k : Nat} {f : Addr} {fd : FuncData} {ps : List Str}
theorem fnG_badP : FnG P w K mg base CX k f fd ps (spP K fun _ _ => .bad) :=
  ⟨fun vs H Q E ⟨_, _, _, _, _, _, _, _, _, _, _, _, _, _, h⟩ => h.elim, fun A outer s H args us vs Q E _ _ _ _ ⟨_, _, _, _, _, _, _, _, _, _, _, _, _, _, h⟩ => h.elim⟩
theorem fnG_badA : FnG P w K mg base CX k f fd ps (spA K mg fun _ => .bad) :=
  ⟨fun vs H Q E ⟨_, _, _, _, _, h⟩ => h.elim, fun A outer s H args us vs Q E _ _ _ _ ⟨_, _, _, _, _, h⟩ => h.elim⟩
end
end DL
/-! a call of a def with nothing handed in -/
namespace DL
open PySem PySem.Builtin L2 PyProof.Rows
section
variable {X : Cx} {W : WX} {x : Str} {k : Nat} {p pos : Pos}
theorem pe_callG0 {CX : CXT} {f : Addr} {fd : FuncData} {ps : List Str} {sp : Sp} {dvs : List V} {ds : List Value} {E : L2.St → XK} (F : FnG X.prog X.w X.K X.mg X.base CX k f fd ps sp) (hr : RoomG k X.A) (hg : Gl X x) (hm : X.mg x = some (.ref f)) (hk : PySem.W.keepIn X.K (.ref f) = true) (hb : Binds X.K fd ps ds) (hd : Vals dvs ds) (hx : ∀ σ, PassesAt CX X σ (E σ))
    (hdb : (x == ("__debug__" : Str)) = false := by decide) : PE X (.Call (.Name x p) [] [] pos) (tCallSD sp dvs E tNil) :=
  ⟨fun pins s σ H Q I h => wpAny_Call_Name_kw (ld_glob I hg hm (PySem.W.callWith_K0 I.kIn hk (call_fnG (us := []) F hr hb hd (hx σ) I .nil h)) hdb)⟩
theorem de_callA0 {g : List PyData → Res PyData} (G : FnIs X.prog X.w X.K X.mg X.base x k (spA X.K X.mg g)) (hr : RoomG k X.A) (cx : Ctx X W) (hg : Gl X x := by rfl)
    (hdb : (x == ("__debug__" : Str)) = false := by decide) :
    DE X W (.Call (.Name x p) [] [] pos) ((pure []) >>= fun ds => M.ofRes (g ds)) := by
  obtain ⟨f, fd, ps, hm, hk, hb, F⟩ := G.ex
  refine PE_mono (pe_callG0 F hr hg hm hk hb .nil (fun σ => passAt cx.tk σ) hdb) fun σ H Q h => ?_
  obtain ⟨F', P', S, env, rel, post⟩ := callA_read h
  exact post [] S H rel (Ex.refl S) .nil
end
end DL
/-! small data: their repr is known -/
namespace DL
open PySem PySem.Builtin L2 PyProof.Rows
def isD01 : List (PyData × PyData) → Bool
  | [] => true
  | [(.int 0, .int 1)] => true
  | _ => false
mutual
def sd : PyData → Bool
  | .int i => decide (i.natAbs < 10 ^ 40)
  | .str x => plainS x && decide (x.length ≤ 10)
  | .list ds => decide (ds.length ≤ 6) && sds ds
  | .tuple ds => decide (ds.length ≤ 6) && sds ds
  | .dict kvs => isD01 kvs
  | _ => true
def sds : List PyData → Bool
  | [] => true
  | d :: ds => sd d && sds ds
end
def BB : Nat → Nat
  | 0 => 42
  | n + 1 => 6 * (BB n + 2) + 3
theorem BB_ge : ∀ n, 42 ≤ BB n
  | 0 => Nat.le_refl _
  | n + 1 => by have := BB_ge n; simp only [BB]; omega
theorem sds_iff : ∀ {ds : List PyData}, sds ds = true ↔ ∀ d ∈ ds, sd d = true
  | [] => by simp [sds]
  | d :: ds => by simp [sds, sds_iff]
theorem noDicts_iff : ∀ {ds : List PyData}, noDicts ds = true ↔ ∀ d ∈ ds, noDict d = true
  | [] => by simp [noDicts]
  | d :: ds => by simp [noDicts, noDicts_iff]
theorem noLists_iff : ∀ {ds : List PyData}, noLists ds = true ↔ ∀ d ∈ ds, noList d = true
  | [] => by simp [noLists]
  | d :: ds => by simp [noLists, noLists_iff]
theorem depthAll_iff {n : Nat} : ∀ {ds : List PyData}, PyData.depthAll ds ≤ n ↔ ∀ d ∈ ds, d.depth ≤ n
  | [] => by simp [PyData.depthAll]
  | d :: ds => by simp [PyData.depthAll, Nat.max_le, depthAll_iff]
theorem showAll_iff : ∀ {ds : List PyData}, PyData.showableAll ds = true ↔ ∀ d ∈ ds, d.showable = true
  | [] => by simp [PyData.showableAll]
  | d :: ds => by simp [PyData.showableAll, showAll_iff]
theorem shownAll_map : ∀ {ds : List PyData}, PyData.shownAll ds = ds.map PyData.shown
  | [] => by simp [PyData.shownAll]
  | d :: ds => by simp [PyData.shownAll, shownAll_map]
theorem cq_tuple {m k : Nat} {ds : List PyData} (h : ∀ d ∈ ds, cq m d.shown) (hk : ds.length ≤ k) : cq (k * (m + 2) + 3) (PyData.tuple ds).shown := by
  have b4 : ∀ t ∈ PyData.shownAll ds, cq m t := by
    rw [shownAll_map]
    intro t ht
    obtain ⟨d, hd, rfl⟩ := List.mem_map.mp ht
    exact h d hd
  have b5 : (PyData.shownAll ds).length = ds.length := by rw [shownAll_map, List.length_map]
  have p : cq 1 ("(" : Str) := ⟨by decide, by decide⟩
  have q : cq 2 ((if (PyData.shownAll ds).length == 1 then ",)" else ")" : String) : Str) := by
    split
    · exact ⟨by decide, by decide⟩
    · exact ⟨by decide, by decide⟩
  have := (p.app (cq_join _ b4)).app q
  rw [b5] at this
  have e : ds.length * (m + 2) ≤ k * (m + 2) := Nat.mul_le_mul_right _ hk
  have sh : (PyData.tuple ds).shown = tupleText (PyData.shownAll ds) := by simp [PyData.shown]
  rw [sh]
  unfold tupleText
  rw [b5] at *
  exact cq.mono this (by omega)
theorem cq_list {m k : Nat} {ds : List PyData} (h : ∀ d ∈ ds, cq m d.shown) (hk : ds.length ≤ k) : cq (k * (m + 2) + 3) (PyData.list ds).shown := by
  have b4 : ∀ t ∈ PyData.shownAll ds, cq m t := by
    rw [shownAll_map]
    intro t ht
    obtain ⟨d, hd, rfl⟩ := List.mem_map.mp ht
    exact h d hd
  have b5 : (PyData.shownAll ds).length = ds.length := by rw [shownAll_map, List.length_map]
  have p : cq 1 ("[" : Str) := ⟨by decide, by decide⟩
  have q : cq 1 ("]" : Str) := ⟨by decide, by decide⟩
  have := (cq_from _ 0 1 _ p b4).app q
  rw [b5] at this
  have e : ds.length * (m + 2) ≤ k * (m + 2) := Nat.mul_le_mul_right _ hk
  have sh : (PyData.list ds).shown = listText (PyData.shownAll ds) := by simp [PyData.shown]
  rw [sh]
  exact cq.mono this (by omega)
theorem sz_all : ∀ (n : Nat) (d : PyData), sd d = true → d.depth ≤ n → d.showable = true ∧ cq (BB n) d.shown
  | n, .none, _, _ => ⟨(rq_none (n := 0) (m := 42) (by omega)).sh, (rq_none (n := 0) (m := 42) (by omega)).tx.mono (BB_ge n)⟩
  | n, .bool b, _, _ => ⟨(rq_bool (n := 0) (m := 42) b (by omega)).sh, (rq_bool (n := 0) (m := 42) b (by omega)).tx.mono (BB_ge n)⟩
  | n, .int i, h, _ => by
    have q := rq_int10 (n := 0) (m := 42) (k := 40) (i := i) (by omega) (by omega) (by simpa [sd] using h) (by omega)
    exact ⟨q.sh, q.tx.mono (BB_ge n)⟩
  | n, .str x, h, _ => by
    simp only [sd, Bool.and_eq_true, decide_eq_true_eq] at h
    have q := rq_str (n := 0) (k := 10) h.1 h.2
    exact ⟨q.sh, q.tx.mono (by have := BB_ge n; omega)⟩
  | 0, .list ds, _, h => by simp [PyData.depth] at h
  | 0, .tuple ds, _, h => by simp [PyData.depth] at h
  | n + 1, .list ds, h, hd => by
    simp only [sd, Bool.and_eq_true, decide_eq_true_eq, sds_iff] at h
    simp only [PyData.depth, Nat.add_le_add_iff_right, depthAll_iff] at hd
    have ih : ∀ d ∈ ds, d.showable = true ∧ cq (BB n) d.shown := fun d hm => sz_all n d (h.2 d hm) (hd d hm)
    exact ⟨by simp only [PyData.showable, showAll_iff]; exact fun d hm => (ih d hm).1, cq_list (fun d hm => (ih d hm).2) h.1⟩
  | n + 1, .tuple ds, h, hd => by
    simp only [sd, Bool.and_eq_true, decide_eq_true_eq, sds_iff] at h
    simp only [PyData.depth, Nat.add_le_add_iff_right, depthAll_iff] at hd
    have ih : ∀ d ∈ ds, d.showable = true ∧ cq (BB n) d.shown := fun d hm => sz_all n d (h.2 d hm) (hd d hm)
    exact ⟨by simp only [PyData.showable, showAll_iff]; exact fun d hm => (ih d hm).1, cq_tuple (fun d hm => (ih d hm).2) h.1⟩
  | n, .dict kvs, h, _ => by
    have : kvs = [] ∨ kvs = [(.int 0, .int 1)] := by
      simp only [sd] at h
      unfold isD01 at h
      split at h
      · exact .inl rfl
      · exact .inr rfl
      · cases h
    rcases this with rfl | rfl
    · exact ⟨by decide +kernel, cq.mono (m := 42) ⟨by decide +kernel, by decide +kernel⟩ (BB_ge n)⟩
    · exact ⟨by decide +kernel, cq.mono (m := 42) ⟨by decide +kernel, by decide +kernel⟩ (BB_ge n)⟩
/-- repr of small data without dicts, or without lists -/
theorem reprB_of {d : PyData} (h : sd d = true) (hd : d.depth ≤ 6) (hk : noDict d = true ∨ noList d = true) : gReprB [d] = some (.str d.shown) := by
  obtain ⟨h1, h2⟩ := sz_all 6 d h hd
  have h3 : TxOk d.shown := h2.tx (by decide)
  have hd' : d.depth ≤ 60 := by omega
  unfold gReprB
  by_cases hn : noDict d = true
  · have : gReprA [d] = some (.str d.shown) := if_pos (by simp [reprOk, hn, h1, hd', h3])
    rw [this]
  · have hl : noList d = true := hk.resolve_left hn
    have : gReprA [d] = none := if_neg (by simp [reprOk, hn])
    rw [this]
    exact if_pos (by simp [reprOkD, hl, h1, hd', h3])
end DL
/-! sorted(set(xs)) of texts; printed by mkDMF.py -/
namespace DL
open PySem L2 PyProof.Rows
/-! ### the plain side -/
def ddp : List Str → List Str
  | [] => []
  | x :: r => if r.any (· == x) then ddp r else x :: ddp r
theorem any_mem {r : List Str} {x : Str} : r.any (· == x) = true ↔ x ∈ r := by
  rw [List.any_eq_true]
  constructor
  · rintro ⟨y, hy, e⟩; rw [← eq_of_beq e]; exact hy
  · intro h; exact ⟨x, h, by simp⟩
theorem ddp_mem : ∀ {xs : List Str} {q : Str}, q ∈ ddp xs ↔ q ∈ xs
  | [], q => by simp [ddp]
  | x :: r, q => by
    unfold ddp
    split
    · rename_i h
      rw [ddp_mem, List.mem_cons]
      exact ⟨.inr, fun z => z.elim (fun e => e ▸ any_mem.mp h) id⟩
    · rw [List.mem_cons, List.mem_cons, ddp_mem]
theorem ddp_nodup : ∀ (xs : List Str), (ddp xs).Nodup
  | [] => List.Pairwise.nil
  | x :: r => by
    unfold ddp
    split
    · exact ddp_nodup r
    · rename_i h
      exact List.nodup_cons.mpr ⟨fun z => h (any_mem.mpr (ddp_mem.mp z)), ddp_nodup r⟩
def leS (a b : Str) : Bool := decide (a.cps.toList ≤ b.cps.toList)
def srtS (xs : List Str) : List Str := (ddp xs).mergeSort leS
theorem leS_total (a b : Str) : (leS a b || leS b a) = true := by
  simp only [leS, Bool.or_eq_true, decide_eq_true_eq]; exact List.le_total _ _
theorem leS_trans (a b c : Str) (h1 : leS a b = true) (h2 : leS b c = true) : leS a c = true := by
  simp only [leS, decide_eq_true_eq] at *; exact List.le_trans h1 h2
theorem leS_anti {a b : Str} (h1 : leS a b = true) (h2 : leS b a = true) : a = b := by
  simp only [leS, decide_eq_true_eq] at *
  have := List.le_antisymm h1 h2
  obtain ⟨a⟩ := a; obtain ⟨b⟩ := b
  simpa using this
theorem sorted_one : ∀ {m n : List Str}, m.Perm n → m.Pairwise (fun a b => leS a b = true) → n.Pairwise (fun a b => leS a b = true) → m = n
  | [], n, p, _, _ => by rw [List.nil_perm.mp p]
  | x :: m, [], p, _, _ => absurd (List.perm_nil.mp p) (by simp)
  | x :: m, y :: n, p, h1, h2 => by
    obtain ⟨a1, a2⟩ := List.pairwise_cons.mp h1
    obtain ⟨b1, b2⟩ := List.pairwise_cons.mp h2
    have e : x = y := by
      by_cases h : x = y
      · exact h
      · have hx : x ∈ n := (List.mem_cons.mp (p.mem_iff.mp List.mem_cons_self)).resolve_left h
        have hy : y ∈ m := (List.mem_cons.mp (p.mem_iff.mpr List.mem_cons_self)).resolve_left (Ne.symm h)
        exact leS_anti (a1 y hy) (b1 x hx)
    subst e
    rw [sorted_one ((List.perm_cons x).mp p) a2 b2]
theorem srt_perm {l xs : List Str} (nd : l.Nodup) (hm : ∀ q, q ∈ l ↔ q ∈ xs) {bs : List Str} (p : bs.Perm l) : bs.mergeSort leS = srtS xs := by
  refine sorted_one ?_ (List.pairwise_mergeSort leS_trans leS_total _) (List.pairwise_mergeSort leS_trans leS_total _)
  refine (List.mergeSort_perm _ _).trans (p.trans (List.Perm.trans ?_ (List.mergeSort_perm _ _).symm))
  exact (List.perm_ext_iff_of_nodup nd (ddp_nodup xs)).mpr fun q => (hm q).trans ddp_mem.symm
theorem perm_sub : ∀ {l bs : List Str}, l.Nodup → (∀ x ∈ l, x ∈ bs) → bs.length ≤ l.length → bs.Perm l
  | [], bs, _, _, h => by
    have : bs = [] := List.length_eq_zero_iff.mp (by simpa using h)
    rw [this]
  | x :: r, bs, nd, hs, hl => by
    obtain ⟨n1, n2⟩ := List.nodup_cons.mp nd
    have hx : x ∈ bs := hs x List.mem_cons_self
    have p := List.perm_cons_erase hx
    refine p.trans (List.Perm.cons x (perm_sub n2 (fun y hy => ?_) ?_))
    · exact (List.mem_erase_of_ne (fun e : y = x => n1 (e ▸ hy))).mpr (hs y (List.mem_cons_of_mem _ hy))
    · rw [List.length_erase_of_mem hx]
      simp at hl; omega
/-! ### the set -/
def SetS (P : Program) (w : World) (h : Heap) (a : Addr) (l : List Str) : Prop := ∃ D : Froz.SD, h.get? a = some (Froz.sObj "set" D) ∧ Froz.TxOk P w D l ∧ l.Nodup ∧ Ris D.2.2.place.toList ∧ (w.params.followText "set-order" = true ∨ D.2.2.led = true)
theorem SetS.at {P : Program} {w : World} {h h' : Heap} {a : Addr} {l : List Str} (R : SetS P w h a l) (k : ∀ o, h.get? a = some o → h'.get? a = some o) : SetS P w h' a l := by
  obtain ⟨D, ho, r⟩ := R
  exact ⟨D, k _ ho, r⟩
theorem tail_ris {ep : Nat} {es1 : Array (Int × Value)} {t2 : SetTable} {wd : Bool} (r : Ris t2.place.toList) : Ris (Froz.tailTx ep es1 t2 wd).2.2.place.toList := by
  unfold Froz.tailTx
  split
  · exact relayAll_ris _ _ _
  · exact r
theorem tail_led {ep : Nat} {es1 : Array (Int × Value)} {t2 : SetTable} {wd : Bool} : (Froz.tailTx ep es1 t2 wd).2.2.led = t2.led := by
  unfold Froz.tailTx
  split
  · exact relayAll_led _ _ _
  · rfl
theorem addTx_ris (h : Int) (v : Value) (D : Froz.SD) (r : Ris D.2.2.place.toList) : Ris (Froz.addTx h v D).2.2.place.toList := by
  have r1 := layNew_ris D.2.2 D.1 h v r
  unfold Froz.addTx
  refine tail_ris ?_
  split
  · exact r1
  · exact r1
theorem addTx_led (h : Int) (v : Value) (D : Froz.SD) : (Froz.addTx h v D).2.2.led = D.2.2.led := by
  have r1 := layNew_led D.2.2 D.1 h v
  unfold Froz.addTx
  rw [tail_led]
  split
  · exact r1
  · exact r1
section
variable {P : Program} {w : World} {A : Around} {E : Value → Shared → Prop} {s : Shared}
theorem addS_old {a : Addr} {T : String} {D : Froz.SD} {l : List Str} {k : Str} {u : Tok} {Q : Bool → Shared → Prop} (ho : s.heap.get? a = some (Froz.sObj T D)) (F : Froz.TxOk P w D l) (hk : k ∈ l) (hb : l.length < scanBound)
    (h : Q false s) : wpAny (model P w) A (setAddHashed a (.str k u) (hashStr w k)) Q E s := by
  obtain ⟨es, ep, t⟩ := D
  have hd : (Froz.sObj T (es, ep, t)).data = .set es ep t := rfl
  have hf : t.fits es.size = true := F.fit
  have hel : ElemsOf (strKind P w) es.toList := F.el
  have hsz : es.size = l.length := F.sz
  have hb0 : es.size < scanBound := by omega
  have hkey : (strKind P w).is k (.str k u) = true := Froz.is_str k u
  unfold setAddHashed setAddHashedIn
  refine wpAny_holding (wpAny_bind (wpAny_setState_of ho hd hf ?_))
  dsimp only
  rw [byScan_of rfl hb0 hel]
  simp only [↓reduceIte]
  unfold setAddByScan
  refine wpAny_bind ?_
  refine wpAny_bind (wpAny_rule ?_)
  refine wpAny_bind (wpAny_setScan_of (knd := strKind P w) (k := k) hkey ho hd hf hel ?_)
  cases hfi : List.findIdx? (fun e => (strKind P w).is k e.2) es.toList with
  | none =>
    obtain ⟨e, he, q⟩ := (F.mem k).mp hk
    have c := List.findIdx?_eq_none_iff.mp hfi e he
    rw [q] at c
    cases c
  | some j =>
    dsimp only
    exact wpAny_pure (wpAny_pure h)
theorem SetS.add {a : Addr} {l : List Str} {k : Str} {u : Tok} {Q : Bool → Shared → Prop} (R : SetS P w s.heap a l) (hb : l.length + 1 < scanBound)
    (h : ∀ b h' l', Heap.SameBut a s.heap h' → SetS P w h' a l' → (∀ q, q ∈ l' ↔ q = k ∨ q ∈ l) → l'.length ≤ l.length + 1 → Q b { s with heap := h' }) :
    wpAny (model P w) A (setAddHashed a (.str k u) (hashStr w k)) Q E s := by
  have R0 := R
  obtain ⟨D, ho, F, nd, r, ld⟩ := R
  by_cases hk : k ∈ l
  · refine addS_old ho F hk (by omega) ?_
    exact h false s.heap l (Heap.SameBut.refl a s.heap) R0 (fun q => ⟨.inr, fun z => z.elim (fun e => e ▸ hk) id⟩) (by omega)
  · refine Froz.add_x ho F hk hb ?_
    refine h true _ (k :: l) (Heap.SameBut.update s.heap a _) ⟨_, Froz.get_upd _ ho rfl, Froz.add_ok u F, List.nodup_cons.mpr ⟨hk, nd⟩, addTx_ris _ _ _ r, ?_⟩ (fun q => List.mem_cons) (by simp)
    rw [addTx_led]
    exact ld
end
section
variable {prog : Program} {w : World} {A : Around} {R : Result → Shared → Prop} {I : Addr} {fp wr : List Addr} {G : Array GenState → Array GenState → Prop} {n : Nat} {P : Nat → Value → Prop} {St : Nat → Shared → Prop}
theorem set_fillS (W : WalksS prog w A.in1 I fp wr G n P St) (S : Addr) (hSf : S ∉ fp) (xs : List Str) (hsz : xs.length = n) (hb : n + 1 < scanBound)
    (hval : ∀ i v, P i v → ∃ t, v = .str (xs.getD i Str.empty) t) :
    ∀ (k i : Nat) (s : Shared) (l : List Str), n - i = k → i ≤ n → St i s → SetS prog w s.heap S l → (∀ q, q ∈ l ↔ q ∈ xs.take i) → l.length ≤ i →
      (∀ s' l', Moved (S :: wr) G s s' → SetS prog w s'.heap S l' → (∀ q, q ∈ l' ↔ q ∈ xs) → l'.length ≤ n → R (.ok (.ret .none)) s') →
      codeAny (model prog w) A (.builtin "set.update.loop" ⟨[.ref S, .ref I], []⟩) R s := by
  have hSw : S ∉ wr := fun h => hSf (W.sub _ h)
  have up : ∀ b ∈ wr, b ∈ S :: wr := fun b hb => List.mem_cons_of_mem _ hb
  intro k
  induction k with
  | zero =>
    intro i s l hk hi hst hS hm0 hl0 hR
    obtain rfl : i = n := by omega
    refine codeAny_builtin PyProof.Rows.F.entry_set_update_loop ?_
    rw [Around.under_plainId PyProof.Rows.F.plain_set_update_loop _]
    show wpAny _ A.in1 (pyNext (.ref I) >>= _) _ _ s
    refine wpAny_bind (W.done s _ _ hst fun s' hm => ?_)
    show wpAny _ A.in1 (ret Value.none) _ _ s'
    refine wpAny_pure (hR s' l (hm.mono up) (hS.at fun o e => hm.heap S _ hSw e) ?_ hl0)
    rw [← hsz, List.take_length] at hm0
    exact hm0
  | succ k ih =>
    intro i s l hk hi hst hS hm0 hl0 hR
    have hlt : i < n := by omega
    refine codeAny_builtin PyProof.Rows.F.entry_set_update_loop ?_
    rw [Around.under_plainId PyProof.Rows.F.plain_set_update_loop _]
    show wpAny _ A.in1 (pyNext (.ref I) >>= _) _ _ s
    refine wpAny_bind (W.item i s _ _ hlt hst fun v s' hP hst' hm => ?_)
    obtain ⟨t, rfl⟩ := hval i v hP
    have hS' : SetS prog w s'.heap S l := hS.at fun o e => hm.heap S _ hSw e
    have hx : xs.take (i + 1) = xs.take i ++ [xs.getD i Str.empty] := by
      rw [List.take_succ, List.getD_eq_getElem?_getD, List.getElem?_eq_getElem (by omega)]; rfl
    show wpAny _ A.in1 (holding [Value.str (xs.getD i Str.empty) t] (setAdd S (.str (xs.getD i Str.empty) t)) >>= _) _ _ s'
    refine wpAny_bind (wpAny_holding ?_)
    unfold setAdd
    refine wpAny_holding ?_
    refine wpAny_bind ((PySem.strKind prog w).pyHash (k := xs.getD i Str.empty) (strKind_is _ _ _ _) ?_)
    refine SetS.add (s := { s' with toks := s'.toks + 1 }) hS' (by omega) fun b h' l' hsb hS2 hm2 hl2 => ?_
    refine wpAny_pure ⟨plainId_quiet PyProof.Rows.F.plain_set_update_loop _, ih (i + 1) _ l' (by omega) hlt (W.frame _ s' _ _ hst' (Nat.le_succ _) fun b hb o e => ?_) hS2 (fun q => ?_) (by omega) fun s'' l'' hm'' hS'' h1 h2 => ?_⟩
    · rw [hsb.2 b (fun h : b = S => hSf (by rw [← h]; exact hb))]; exact e
    · rw [hm2, hx, List.mem_append, hm0, List.mem_singleton]; exact Or.comm
    · refine hR s'' l'' (Moved.trans W.gtrans ((hm.mono up).then_heap (Nat.le_succ _) fun b o hb e => ?_) hm'') hS'' h1 h2
      rw [hsb.2 b (fun h : b = S => hb (by rw [h]; exact List.mem_cons_self))]; exact e
end

section
variable {prog : Program} {w : World} {A : Around} {E : Value → Shared → Prop} {s : Shared}
theorem set_of_listS {l : Addr} {items : Array Value} {xs : List Str} {Q : Value → Shared → Prop} (hh : A.handled = none) (hl : s.heap.IsList l items) (hi : PyProof.Rows.StrsAre items.toList xs) (hb : xs.length + 1 < scanBound)
    (h : ∀ (h' : Heap) (tk : Nat) (l' : List Str), SetS prog w h' s.heap.objs.size l' → (∀ q, q ∈ l' ↔ q ∈ xs) → l'.length ≤ xs.length → (∀ b o, b < s.heap.objs.size → s.heap.get? b = some o → h'.get? b = some o) → Q (.ref s.heap.objs.size) { s with heap := h', toks := tk }) :
    wpAny (model prog w) A (call (.type "set") [.ref l]) Q E s := by
  obtain ⟨c, tl, hmro⟩ := PySem.F.called_set.mro
  have hmade := PySem.F.called_set.made
  have hsub := PySem.F.called_set.sub
  have h1 := PySem.F.called_set.notType
  have h2 := PySem.F.called_set.canCreate
  have hct := PySem.F.typeCall_set_1 (.ref l)
  refine wpAny_call (codeAny_of_tree ?_)
  show wpAny _ _ (callAny (.type "set") _) _ _ _
  refine wpAny_pure ⟨Code.quiet_builtin _ (by decide +kernel), codeAny_builtin PySem.F.entry_type_call ?_⟩
  rw [Around.under_plain (weight_type_call_type "set" [.ref l] []) rfl]
  repeat (any_goals (first | assumption | wp_step))
  refine codeAny_mono (code_set_led1 (.ref l) (E := E) (Q₁ := fun obj s₁ => obj = .ref s.heap.objs.size ∧ s₁ = { s with heap := s.heap.push { cls := .type "set", dict := none, data := .set #[] 0 (.fresh 0 0 (!w.params.followText "set-order")) } }) ⟨rfl, rfl⟩) fun r s₁ hr => ?_
  match r, hr with
  | .error e, hr => exact hr
  | .ok (.ret obj), hr =>
    obtain ⟨rfl, rfl⟩ := hr
    generalize hled : (!w.params.followText "set-order") = led at *
    have hS : (s.heap.push { cls := .type "set", dict := none, data := .set #[] 0 (.fresh 0 0 led) }).get? s.heap.objs.size = some { cls := .type "set", dict := none, data := .set #[] 0 (.fresh 0 0 led) } := Heap.get?_push_size _ rfl
    have hT : Shared.TypeIs { s with heap := s.heap.push { cls := .type "set", dict := none, data := .set #[] 0 (.fresh 0 0 led) } } (.ref s.heap.objs.size) "set" := ⟨_, hS, rfl⟩
    have hli := PySem.F.called_set.init.lookup
    have hbi := PySem.F.called_set.init.bind (.ref s.heap.objs.size)
    repeat (any_goals (first | assumption | wp_step))
    refine codeAny_mono (codeAny_call_builtin (R := wants (fun r s₂ => r = .none ∧ ∃ h' tk l', s₂ = { s with heap := h', toks := tk } ∧ SetS prog w h' s.heap.objs.size l' ∧ (∀ q, q ∈ l' ↔ q ∈ xs) ∧ l'.length ≤ xs.length ∧
      (∀ b o, b < s.heap.objs.size → s.heap.get? b = some o → h'.get? b = some o)) E) PySem.F.called_set.init.plain PySem.F.entry_set_init (check_set_init_1 hT ?_)) fun r₂ s₂ hr₂ => ?_
    · obtain ⟨⟨ocls, odict, odata, oslots⟩, hol, hcl, nl, hdl⟩ := hl
      simp only at hcl hdl
      subst hcl; subst hdl
      have hol' : (s.heap.push { cls := .type "set", dict := none, data := .set #[] 0 (.fresh 0 0 led) }).get? l = some { cls := .type "list", dict := odict, data := .seq items nl, slots := oslots } := Heap.get?_push_of_some _ hol
      have hsls := PySem.F.sub_list_set
      have hslf := PySem.F.sub_list_frozenset
      have hne : (Value.type "list" == Value.type "dict") = false := by decide
      have hl1 : (s.heap.push { cls := .type "set", dict := none, data := .set #[] 0 (.fresh 0 0 led) }).IsList l items := ⟨_, hol', rfl, nl, rfl⟩
      unfold Builtin.«set.__init__» noKeywords Builtin.Frozenset.updateFrom
      generalize hPI : pyIter = PI
      wp_walk
      subst hPI
      refine wpAny_pyIter_list hl1 ?_
      refine wpAny_bind (wpAny_runValue ?_)
      have hlS : l < s.heap.objs.size := Heap.lt_size hol
      have hh3 : A.in1.in1.in1.handled = none := by simp [hh]
      have hneI : l ≠ (s.heap.push { cls := .type "set", dict := none, data := .set #[] 0 (.fresh 0 0 led) }).objs.size := by
        rw [Heap.size_push]; exact Nat.ne_of_lt (Nat.lt_succ_of_lt hlS)
      have hSf : s.heap.objs.size ∉ [(s.heap.push { cls := .type "set", dict := none, data := .set #[] 0 (.fresh 0 0 led) }).objs.size, l] := by
        rw [Heap.size_push]; simp only [List.mem_cons, List.not_mem_nil, or_false, not_or]
        exact ⟨Nat.ne_of_lt (Nat.lt_succ_self _), Nat.ne_of_gt hlS⟩
      have hsz : xs.length = items.size := by rw [← StrsAre.len_eq hi, Array.length_toList]
      have hval : ∀ (i : Nat) (v : Value), items[i]? = some v → ∃ t, v = .str (xs.getD i Str.empty) t := fun i v hv => SS.strs_at hi i v (by rw [Array.getElem?_toList]; exact hv)
      refine set_fillS ((Walks.list hh3 _ l hneI items).toS) s.heap.objs.size hSf xs hsz (by rw [← hsz]; exact hb) hval (items.size - 0) 0 _ [] (by omega) (Nat.zero_le _) ⟨⟨_, Heap.get?_push_size _ rfl, rfl, rfl⟩, (hl1.push _)⟩ ?s0 (fun q => by simp) (Nat.le_refl _) ?sR
      case s0 =>
        refine ⟨(#[], 0, .fresh 0 0 led), Heap.get?_push_of_some _ hS, Froz.TxOk.nil (by rfl), List.Pairwise.nil, List.Pairwise.nil, ?_⟩
        show _ ∨ led = true
        rw [← hled]
        cases w.params.followText "set-order"
        · exact .inr rfl
        · exact .inl rfl
      case sR =>
        intro s' l' hm hS' hm1 hl1'
        obtain ⟨h', g', d', tk', os'⟩ := s'
        have eg : g' = s.gens := hm.gens
        have ed : d' = s.drawn := hm.drawn
        have eo : os' = s.os := hm.os
        subst eg; subst ed; subst eo
        show wpAny _ _ _ _ _ _
        refine wpAny_pure ?_
        show wpAny _ _ (ret Value.none) _ _ _
        refine wpAny_pure ⟨rfl, h', tk', l', rfl, hS', hm1, by rw [hsz]; exact hl1', fun b o hb e => ?_⟩
        refine hm.heap b o ?_ (Heap.get?_push_of_some _ (Heap.get?_push_of_some _ e))
        rw [Heap.size_push]; simp only [List.mem_cons, List.not_mem_nil, or_false, not_or]
        exact ⟨Nat.ne_of_lt hb, Nat.ne_of_lt (Nat.lt_succ_of_lt hb)⟩
    · match r₂, hr₂ with
      | .error e, hr₂ => exact hr₂
      | .ok (.ret r), hr₂ =>
        obtain ⟨rfl, h', tk, l', rfl, hS', hm', hl', hk'⟩ := hr₂
        repeat (any_goals (first | assumption | wp_step))
        exact h _ _ _ hS' hm' hl' hk'
end

section
variable {prog : Program} {w : World} {A : Around} {E : Value → Shared → Prop} {s : Shared}
theorem set_of_tupleS {l : Addr} {items : Array Value} {xs : List Str} {Q : Value → Shared → Prop} (hh : A.handled = none) (hl : s.heap.IsTuple l items) (hi : PyProof.Rows.StrsAre items.toList xs) (hb : xs.length + 1 < scanBound)
    (h : ∀ (h' : Heap) (tk : Nat) (l' : List Str), SetS prog w h' s.heap.objs.size l' → (∀ q, q ∈ l' ↔ q ∈ xs) → l'.length ≤ xs.length → (∀ b o, b < s.heap.objs.size → s.heap.get? b = some o → h'.get? b = some o) → Q (.ref s.heap.objs.size) { s with heap := h', toks := tk }) :
    wpAny (model prog w) A (call (.type "set") [.ref l]) Q E s := by
  obtain ⟨c, tl, hmro⟩ := PySem.F.called_set.mro
  have hmade := PySem.F.called_set.made
  have hsub := PySem.F.called_set.sub
  have h1 := PySem.F.called_set.notType
  have h2 := PySem.F.called_set.canCreate
  have hct := PySem.F.typeCall_set_1 (.ref l)
  refine wpAny_call (codeAny_of_tree ?_)
  show wpAny _ _ (callAny (.type "set") _) _ _ _
  refine wpAny_pure ⟨Code.quiet_builtin _ (by decide +kernel), codeAny_builtin PySem.F.entry_type_call ?_⟩
  rw [Around.under_plain (weight_type_call_type "set" [.ref l] []) rfl]
  repeat (any_goals (first | assumption | wp_step))
  refine codeAny_mono (code_set_led1 (.ref l) (E := E) (Q₁ := fun obj s₁ => obj = .ref s.heap.objs.size ∧ s₁ = { s with heap := s.heap.push { cls := .type "set", dict := none, data := .set #[] 0 (.fresh 0 0 (!w.params.followText "set-order")) } }) ⟨rfl, rfl⟩) fun r s₁ hr => ?_
  match r, hr with
  | .error e, hr => exact hr
  | .ok (.ret obj), hr =>
    obtain ⟨rfl, rfl⟩ := hr
    generalize hled : (!w.params.followText "set-order") = led at *
    have hS : (s.heap.push { cls := .type "set", dict := none, data := .set #[] 0 (.fresh 0 0 led) }).get? s.heap.objs.size = some { cls := .type "set", dict := none, data := .set #[] 0 (.fresh 0 0 led) } := Heap.get?_push_size _ rfl
    have hT : Shared.TypeIs { s with heap := s.heap.push { cls := .type "set", dict := none, data := .set #[] 0 (.fresh 0 0 led) } } (.ref s.heap.objs.size) "set" := ⟨_, hS, rfl⟩
    have hli := PySem.F.called_set.init.lookup
    have hbi := PySem.F.called_set.init.bind (.ref s.heap.objs.size)
    repeat (any_goals (first | assumption | wp_step))
    refine codeAny_mono (codeAny_call_builtin (R := wants (fun r s₂ => r = .none ∧ ∃ h' tk l', s₂ = { s with heap := h', toks := tk } ∧ SetS prog w h' s.heap.objs.size l' ∧ (∀ q, q ∈ l' ↔ q ∈ xs) ∧ l'.length ≤ xs.length ∧
      (∀ b o, b < s.heap.objs.size → s.heap.get? b = some o → h'.get? b = some o)) E) PySem.F.called_set.init.plain PySem.F.entry_set_init (check_set_init_1 hT ?_)) fun r₂ s₂ hr₂ => ?_
    · obtain ⟨⟨ocls, odict, odata, oslots⟩, hol, hcl, nl, hdl⟩ := hl
      simp only at hcl hdl
      subst hcl; subst hdl
      have hol' : (s.heap.push { cls := .type "set", dict := none, data := .set #[] 0 (.fresh 0 0 led) }).get? l = some { cls := .type "tuple", dict := odict, data := .seq items nl, slots := oslots } := Heap.get?_push_of_some _ hol
      have hsls := PySem.F.sub_tuple_set
      have hslf := PySem.F.sub_tuple_frozenset
      have hne : (Value.type "tuple" == Value.type "dict") = false := by decide
      have hl1 : (s.heap.push { cls := .type "set", dict := none, data := .set #[] 0 (.fresh 0 0 led) }).IsTuple l items := ⟨_, hol', rfl, nl, rfl⟩
      unfold Builtin.«set.__init__» noKeywords Builtin.Frozenset.updateFrom
      generalize hPI : pyIter = PI
      wp_walk
      subst hPI
      refine wpAny_pyIter_tuple hl1 ?_
      refine wpAny_bind (wpAny_runValue ?_)
      have hlS : l < s.heap.objs.size := Heap.lt_size hol
      have hh3 : A.in1.in1.in1.handled = none := by simp [hh]
      have hneI : l ≠ (s.heap.push { cls := .type "set", dict := none, data := .set #[] 0 (.fresh 0 0 led) }).objs.size := by
        rw [Heap.size_push]; exact Nat.ne_of_lt (Nat.lt_succ_of_lt hlS)
      have hSf : s.heap.objs.size ∉ [(s.heap.push { cls := .type "set", dict := none, data := .set #[] 0 (.fresh 0 0 led) }).objs.size, l] := by
        rw [Heap.size_push]; simp only [List.mem_cons, List.not_mem_nil, or_false, not_or]
        exact ⟨Nat.ne_of_lt (Nat.lt_succ_self _), Nat.ne_of_gt hlS⟩
      have hsz : xs.length = items.size := by rw [← StrsAre.len_eq hi, Array.length_toList]
      have hval : ∀ (i : Nat) (v : Value), items[i]? = some v → ∃ t, v = .str (xs.getD i Str.empty) t := fun i v hv => SS.strs_at hi i v (by rw [Array.getElem?_toList]; exact hv)
      refine set_fillS ((Walks.tuple hh3 _ l hneI items).toS) s.heap.objs.size hSf xs hsz (by rw [← hsz]; exact hb) hval (items.size - 0) 0 _ [] (by omega) (Nat.zero_le _) ⟨⟨_, Heap.get?_push_size _ rfl, rfl, rfl⟩, (hl1.push _)⟩ ?s0 (fun q => by simp) (Nat.le_refl _) ?sR
      case s0 =>
        refine ⟨(#[], 0, .fresh 0 0 led), Heap.get?_push_of_some _ hS, Froz.TxOk.nil (by rfl), List.Pairwise.nil, List.Pairwise.nil, ?_⟩
        show _ ∨ led = true
        rw [← hled]
        cases w.params.followText "set-order"
        · exact .inr rfl
        · exact .inl rfl
      case sR =>
        intro s' l' hm hS' hm1 hl1'
        obtain ⟨h', g', d', tk', os'⟩ := s'
        have eg : g' = s.gens := hm.gens
        have ed : d' = s.drawn := hm.drawn
        have eo : os' = s.os := hm.os
        subst eg; subst ed; subst eo
        show wpAny _ _ _ _ _ _
        refine wpAny_pure ?_
        show wpAny _ _ (ret Value.none) _ _ _
        refine wpAny_pure ⟨rfl, h', tk', l', rfl, hS', hm1, by rw [hsz]; exact hl1', fun b o hb e => ?_⟩
        refine hm.heap b o ?_ (Heap.get?_push_of_some _ (Heap.get?_push_of_some _ e))
        rw [Heap.size_push]; simp only [List.mem_cons, List.not_mem_nil, or_false, not_or]
        exact ⟨Nat.ne_of_lt hb, Nat.ne_of_lt (Nat.lt_succ_of_lt hb)⟩
    · match r₂, hr₂ with
      | .error e, hr₂ => exact hr₂
      | .ok (.ret r), hr₂ =>
        obtain ⟨rfl, h', tk, l', rfl, hS', hm', hl', hk'⟩ := hr₂
        repeat (any_goals (first | assumption | wp_step))
        exact h _ _ _ hS' hm' hl' hk'
end
end DL
/-! sorted(set(xs)) of texts: the call -/
namespace DL
open PySem L2 PyProof.Rows
def txtOf : Value → Str
  | .str x _ => x
  | _ => Str.empty
def IsTx : Value → Str → Prop := fun v b => ∃ t, v = .str b t
theorem each_tx : ∀ {vs : List Value}, (∀ v ∈ vs, ∃ k t, v = .str k t) → W.EachIs IsTx vs (vs.map txtOf)
  | [], _ => .nil
  | v :: vs, h => by
    obtain ⟨k, t, e⟩ := h v List.mem_cons_self
    exact .cons ⟨t, by rw [e]; rfl⟩ (each_tx fun u hu => h u (List.mem_cons_of_mem _ hu))
theorem tx_vals : ∀ {vs : List Value} {bs : List Str}, W.EachIs IsTx vs bs → Vals (bs.map V.str) vs
  | _, _, .nil => .nil
  | _, _, .cons ⟨t, e⟩ r => .cons ⟨t, e⟩ (tx_vals r)
section
variable {P : Program} {w : World} {A : Around} {E : Value → Shared → Prop} {s : Shared}
theorem sorted_setS {a : Addr} {l xs : List Str} {Q : Value → Shared → Prop} (R : SetS P w s.heap a l) (hh : A.handled = none) (hl : l.length ≤ 1000) (hm : ∀ q, q ∈ l ↔ q ∈ xs) (hu : A.units + 10 < cLine)
    (hQ : ∀ s' p (out : List Value) (c : Nat), (∀ b o, s.heap.get? b = some o → s'.heap.get? b = some o) → s'.gens = s.gens → s'.os = s.os → s.heap.objs.size ≤ p →
      s'.heap.get? p = some (seqObj "list" out.toArray c) → Vals ((srtS xs).map V.str) out → (srtS xs).length ≤ 1000 → Q (.ref p) s') :
    wpAny (model P w) A (call (.builtin "sorted") [.ref a]) Q E s := by
  obtain ⟨⟨es, ep, t⟩, ho, F, nd, hr, hld⟩ := R
  have hd : (Froz.sObj "set" (es, ep, t)).data = .set es ep t := rfl
  have hsz : es.size = l.length := F.sz
  have hsb : es.size < scanBound := Nat.lt_of_le_of_lt (by omega : es.size ≤ 1000) (by decide)
  refine Calls.call_function_entry kind_sorted plain_sorted entry_sorted (args_sorted1 _) ?_
  unfold Builtin.«sorted»
  refine wpAny_bind (m := checkCount "sorted" 1 1 _) (wpAny_pure ?_)
  refine wpAny_bind (collect_set (A := A.in1) hh ⟨_, ho, rfl, hd⟩ F.fit hsb hr hld fun s1 vs k1 hz g1 o1 pm => ?_)
  have hvl : vs.length = l.length := by rw [pm.length_eq, List.length_map, Array.length_toList]; exact hsz
  have hst : ∀ e ∈ es.toList, ∃ k tk, e.2 = Value.str k tk := fun e he => by
    obtain ⟨⟨k, hk, _⟩, _⟩ := F.el e he
    have hk' : Value.isStrOf k e.2 = true := hk
    cases q : e.2 with
    | str x tk => exact ⟨x, tk, rfl⟩
    | _ => rw [q] at hk'; cases hk'
  have hvs : ∀ v ∈ vs, ∃ k tk, v = Value.str k tk := fun v hv => by
    obtain ⟨e, he, q⟩ := List.mem_map.mp (pm.mem_iff.mp hv)
    obtain ⟨k, tk, h⟩ := hst e he
    exact ⟨k, tk, by rw [← q]; exact h⟩
  have hpl : (vs.map txtOf).Perm l := by
    refine perm_sub nd (fun x hx => ?_) (by rw [List.length_map]; omega)
    obtain ⟨e, he, q⟩ := (F.mem x).mp hx
    obtain ⟨k, tk, h⟩ := hst e he
    have q' : Value.isStrOf x e.2 = true := q
    rw [h] at q'
    have : k = x := by simpa [Value.isStrOf] using q'
    subst this
    exact List.mem_map.mpr ⟨e.2, pm.mem_iff.mpr (List.mem_map.mpr ⟨e, he, rfl⟩), by rw [h]; rfl⟩
  have hL : vs.length ≤ sizeLine := le_line (by omega)
  refine wpAny_bind (wpAny_newList ?_ hL)
  have hoL : (s1.heap.push (seqObj "list" vs.toArray 0)).get? s1.heap.objs.size = some (seqObj "list" vs.toArray 0) := Heap.get?_push_size _ rfl
  have hE := each_tx hvs
  refine wpAny_bind (wpAny_holding (PySem.W.list_sort_data (s := { s1 with heap := s1.heap.push (seqObj "list" vs.toArray 0) }) (enc := fun b => PyData.str b) (R := IsTx) hoL hE (hE.mono fun v b ⟨t, e⟩ => ⟨[], by rw [e]; exact .str b t, by simp⟩) ?_ ?_ (by rw [List.length_map]; exact hL) (fun b hb => ?_) fun out ho' hout => ?_))
  · exact W.AllAlike.of fun b b' => by simp [W.alike]
  · exact W.Sortable.others fun b => ⟨by simp, by simp⟩
  · show A.units + 1 + 1 + (PyData.str b).depth < cLine
    simp only [PyData.depth]; omega
  · obtain ⟨c, hc⟩ := sortedHeap_at (vs := vs) (out := out.toArray) hoL
    rw [PySem.W.dataLe_str] at hout
    have es : (vs.map txtOf).mergeSort (fun a b => decide (a.cps.toList ≤ b.cps.toList)) = srtS xs := srt_perm nd hm hpl
    rw [es] at hout
    refine wpAny_pure ⟨_, rfl, hQ _ s1.heap.objs.size out c (fun b u e => ?_) g1 o1 hz hc (tx_vals hout) ?_⟩
    · have q := k1 b u e
      have hlt := Heap.lt_size q
      show (sortedHeap (s1.heap.push (seqObj "list" vs.toArray 0)) s1.heap.objs.size vs out.toArray).get? b = some u
      rw [sortedHeap_old (Nat.ne_of_lt hlt) (by rw [size_push']; exact Nat.lt_succ_of_lt hlt)]
      exact Heap.get?_push_of_some _ q
    · rw [← es, List.length_mergeSort, List.length_map]; omega
end
def seqOf : PyData → Option (List PyData)
  | .list ds => some ds
  | .tuple ds => some ds
  | _ => none
/-- sorted(set(xs)) -/
def gSortSet (d : PyData) : Option PyData := match seqOf d with
  | some ds => match strsOf ds with
    | some xs => if xs.length ≤ 1000 then some (.list ((srtS xs).map .str)) else none
    | none => none
  | none => none
def tSortS (K : PySem.W.Frag) (ta : TE) : TE := fun σ H Q => ta σ H fun x H1 => ∃ l, ∃ xs : List Str, x = .ref l ∧ (SqL K H1 l (xs.map V.str) ∨ SqT K H1 l (xs.map V.str)) ∧ xs.length ≤ 1000 ∧
  ∀ p, H1 p = none → Q (.ref p) (upd H1 p (.lst ((srtS xs).map V.str)))
theorem RpAll.txs {K : PySem.W.Frag} {S : Hp} : ∀ {vs : List V} {ds : List PyData} {xs : List Str}, RpAll K S vs ds → strsOf ds = some xs → ∀ q ∈ xs, TxOk q
  | _, _, _, .nil, h => by cases h; simp
  | _, _, _, .cons h r, q => by
    cases h with
    | str x hx =>
      obtain ⟨ys, h1, rfl⟩ := Option.map_eq_some_iff.mp (show (strsOf _).map _ = _ from q)
      intro z hz
      rcases List.mem_cons.mp hz with rfl | hz
      · exact hx
      · exact RpAll.txs r h1 z hz
    | _ => simp [strsOf] at q
theorem rp_strs {K : PySem.W.Frag} {S : Hp} : ∀ {xs : List Str}, (∀ q ∈ xs, TxOk q) → RpAll K S (xs.map V.str) (xs.map PyData.str)
  | [], _ => .nil
  | x :: r, h => .cons (.str x (h x List.mem_cons_self)) (rp_strs fun q hq => h q (List.mem_cons_of_mem _ hq))
section
variable {X : Cx} {W : WX}
theorem boot_sorted' : bootBuiltins "sorted" = some (.builtin "sorted") := by decide +kernel
theorem sorted_end {pins : List (Addr × Obj)} {σ : L2.St} {H1 : Hp} {s1 : Shared} {xs l' : List Str} {Q : VK} {h' : Heap} {tk : Nat} (hc : X.calm = true) (hu : X.A.units + 64 < cLine) (I1 : Inv X pins σ H1 s1) (h1 : xs.length ≤ 1000)
    (hS : SetS X.prog X.w h' s1.heap.objs.size l') (hm : ∀ q, q ∈ l' ↔ q ∈ xs) (hl : l'.length ≤ xs.length) (hk : ∀ b o, b < s1.heap.objs.size → s1.heap.get? b = some o → h'.get? b = some o)
    (q1 : ∀ p, H1 p = none → Q (.ref p) (upd H1 p (.lst ((srtS xs).map V.str)))) :
    wpAny (model X.prog X.w) X.A (call (.builtin "sorted") [.ref s1.heap.objs.size]) (EP X pins σ Q) X.xe { s1 with heap := h', toks := tk } := by
  have I2 : Inv X pins σ H1 { s1 with heap := h', toks := tk } := I1.kept fun b o e => hk b o (Heap.lt_size e) e
  refine sorted_setS (s := { s1 with heap := h', toks := tk }) hS (I1.ok.hd hc) (by omega) hm (by omega) fun s' p out c k g o hp hg hv hlen => ?_
  have hn : H1 p = none := I2.hok.fresh hp
  have hlen' : ((srtS xs).map V.str).length ≤ sizeLine := by rw [List.length_map]; exact le_line hlen
  have J : Inv X pins σ (upd H1 p (.lst ((srtS xs).map V.str))) { s1 with heap := s'.heap, gens := s'.gens, drawn := s'.drawn, toks := s'.toks } :=
    Inv.call (s := { s1 with heap := h', toks := tk }) (ch := []) I2 (Un.laid k hp hn) (I2.hok.laid k hp ⟨hlen', out, c, hv, hg⟩) (by rw [g]; exact I2.bare) (fun _ z => nomatch z)
  have e : s' = { s1 with heap := s'.heap, gens := s'.gens, drawn := s'.drawn, toks := s'.toks } := by
    cases s'
    cases s1
    cases o
    rfl
  rw [e]
  exact ⟨.ref p, _, J, rfl, q1 p hn⟩
theorem pe_sortS {a : Expr} {ta : TE} {p p2 q pos : Pos} (hc : X.calm = true) (hu : X.A.units + 64 < cLine) (hg : Gl X "sorted") (hm : X.mg "sorted" = none) (hg2 : Gl X "set") (hm2 : X.mg "set" = none) (ha : PE X a ta)
    (na : starEach [a] X.env = (false, eval a X.env) :: starEach [] X.env := by rfl) : PE X (.Call (.Name "sorted" p) [.Call (.Name "set" p2) [a] [] q] [] pos) (tSortS X.K ta) := by
  refine ⟨fun pins s σ H Q I h => ?_⟩
  refine Call_ (ld_blt I hg hm boot_sorted' ?_)
  refine PyProof.Rows.callWith_builtin1 (PyProof.Rows.args_cons ?_ rfl) rfl rfl
  refine Call_ (ld_blt I hg2 hm2 boot_set ?_)
  refine PyProof.Rows.callWith_type1 (PyProof.Rows.args_cons (thn (ha.run pins s σ H _ I h) fun v s1 ⟨x, H1, I1, r1, q1⟩ => PyProof.Rows.args_nil ?_) na) na rfl
  obtain ⟨l, xs, rfl, hq, h1, q1⟩ := q1
  cases r1
  have hsb : xs.length + 1 < scanBound := Nat.lt_of_le_of_lt (Nat.succ_le_succ h1) (by decide)
  rcases hq with hq | hq
  · obtain ⟨its, r, pl, hz⟩ := I1.list hq
    exact set_of_listS (I1.ok.hd hc) pl.isList (by simpa using strsAre_of r) hsb fun h' tk l' hS hm hl hk => PyProof.Rows.args_nil (sorted_end hc hu I1 h1 hS hm hl hk q1)
  · obtain ⟨its, r, pl, hz⟩ := I1.tuple hq
    exact set_of_tupleS (I1.ok.hd hc) pl (by simpa using strsAre_of r) hsb fun h' tk l' hS hm hl hk => PyProof.Rows.args_nil (sorted_end hc hu I1 h1 hS hm hl hk q1)
theorem de_sortSet {a : Expr} {f : M PyData} {p p2 q pos : Pos} (hc : X.calm = true) (hu : X.A.units + 64 < cLine) (hm : X.mg "sorted" = none) (hm2 : X.mg "set" = none) (ha : DE X W a f) (hg : Gl X "sorted" := by rfl) (hg2 : Gl X "set" := by rfl)
    (na : starEach [a] X.env = (false, eval a X.env) :: starEach [] X.env := by rfl) : DE X W (.Call (.Name "sorted" p) [.Call (.Name "set" p2) [a] [] q] [] pos) (f >>= fun d => M.lift (gSortSet d)) := by
  refine PE_mono (pe_sortS hc hu hg hm hg2 hm2 ha na) fun σ H Q ⟨F, P, S, env, rel, post⟩ => ?_
  refine ⟨F, P, S, env, rel, Post.step post fun d e p v S1 H1 rel1 ex1 rp1 => ?_⟩
  obtain ⟨dz, ez, qz⟩ := p.lift
  unfold gSortSet at ez
  split at ez
  · split at ez
    · split at ez
      · cases ez
        rename_i ds hsq _ xs hx hl
        have fin : ∀ {vs : List V}, RpAll X.K S1 vs ds → ∀ p, H1 p = none → Q (.ref p) (upd H1 p (.lst ((srtS xs).map V.str))) := fun {vs} r1 p hp => by
          have gr := Grow.new (K := X.K) (o := .lst ((srtS xs).map V.str)) rel1.sh hp
          refine qz (.ref p) _ _ (rel1.grow gr) (ex1.trans gr.ss) (.lst upd_same (rp_strs fun q hq => ?_))
          exact RpAll.txs r1 hx q (ddp_mem.mp ((List.mergeSort_perm _ _).mem_iff.mp hq))
        unfold seqOf at hsq
        split at hsq
        · cases hsq
          obtain ⟨a, vs, rfl, g1, r1⟩ := rp1.lst_inv
          have f := fin r1
          rw [r1.strs hx] at g1
          exact ⟨a, xs, rfl, .inl (rel1.sh.l (SqL.of g1)), hl, f⟩
        · cases hsq
          obtain ⟨a, vs, rfl, g1, r1⟩ := rp1.tup_inv
          have f := fin r1
          rw [r1.strs hx] at g1
          exact ⟨a, xs, rfl, .inr (rel1.sh.t g1), hl, f⟩
        · cases hsq
      · cases ez
    · cases ez
  · cases ez
end
end DL
/-! () * k -/
namespace DL
open PySem PySem.Builtin L2 PyProof.Rows
theorem tuple_mul0 (l : Addr) (n : Nat) (dd : Option Addr) (sl : Array (Option Value)) (x : Int) (u : Tok) (c0 : (decide (x < -(2 ^ 63)) || decide (x ≥ 2 ^ 63)) = false) :
    Meets (Builtin.«tuple.__mul__» ⟨[.ref l, .int x u], []⟩) (fun _ R s => s.heap.get? l = some { cls := .type "tuple", dict := dd, data := .seq #[] n, slots := sl } ∧ R (.ok (.ret (Value.ref l))) s) :=
  .of_wp fun prog w A R s h => by
    obtain ⟨hp, g, d, tk, os⟩ := s
    obtain ⟨hl, h⟩ := h
    have f1 := AutoSeq1.idx_int
    wp_walk using wpAny_loadPart' hl
    repeat (first
      | (refine wpAny_ite_false (decide_eq_false (by rw [c0]; exact Bool.false_ne_true)) ?_; wp_walk using wpAny_loadPart' hl)
      | (refine wpAny_ite_true (decide_eq_true (by rfl)) ?_; wp_walk using wpAny_loadPart' hl))
    exact ⟨_, rfl, h⟩
def rRep0 (K : PySem.W.Frag) : R2 := fun x y H Q => ∃ l k, x = .ref l ∧ y = .int k ∧ SqT K H l [] ∧ 0 ≤ k ∧ k ≤ 1000 ∧ Q (.ref l) H
section
variable {X : Cx} {W : WX}
theorem op_rep0 : OpR X (binaryOp .Mult) (rRep0 X.K) := by
  intro pins s σ H x y v u Q I rx ry h
  obtain ⟨l, k, rfl, rfl, hT, h1, h2, q⟩ := h
  cases rx
  obtain ⟨t, rfl⟩ := ry
  obtain ⟨its, r, ⟨⟨cls, dd, data, sl⟩, ho, hc, n, hd⟩, hs⟩ := I.tuple hT
  simp only at hc hd
  subst hc hd
  cases r
  have c0 : (decide (k < -(2 ^ 63)) || decide (k ≥ 2 ^ 63)) = false := by
    rw [decide_eq_false (by omega), decide_eq_false (by omega)] <;> rfl
  refine wpAny_binaryOp_repeat_ref (T := "tuple") (U := "int") (by decide) ⟨_, ho, rfl⟩ (fun s' => typeIs_int s' k t) noFill_tuple_mul F.fills_int_mul F.slot_int_rmul repeat_tuple F.slot_int_index.lookup
    (call_meets F.slot_int_rmul (typeIs_int s k t) F.entry_int_rmul (F.args_int_rmul_2 _ _) (int_rmul_tuple k t l _ n dd sl)
      ⟨ho, rfl, ⟨_, ho, rfl⟩, call_meets F.slot_tuple_mul ⟨_, ho, rfl⟩ F.entry_tuple_mul (F.args_tuple_mul_2 _ _) (tuple_mul0 l n dd sl k t c0) ⟨ho, ?_⟩⟩)
  exact ⟨.ref l, H, I, rfl, q⟩
def gMul0 : PyData → PyData → Option PyData
  | .tuple [], .int k => if 0 ≤ k ∧ k ≤ 1000 then some (.tuple []) else none
  | _, _ => none
def gMulB : PyData → PyData → Option PyData := orG gMulA gMul0
theorem o_mul0 : Op2 X (binaryOp .Mult) gMul0 := by
  refine ⟨_, op_rep0, fun S H x y dx dy dz Q e rx ry eq p => ?_⟩
  unfold gMul0 at eq
  split at eq
  · split at eq
    · rename_i h
      cases eq
      rw [ry.int_inv]
      have rx' := rx
      obtain ⟨a, xs, rfl, h1, r1⟩ := rx.tup_inv
      cases r1
      exact ⟨a, _, rfl, rfl, e.t h1, h.1, h.2, p.same e rx'⟩
    · cases eq
  · cases eq
theorem o_mulB : Op2 X (binaryOp .Mult) gMulB := o_mulA.or o_mul0
end
end DL
/-! small data of any width: their repr is known -/
namespace DL
open PySem PySem.Builtin L2 PyProof.Rows
mutual
def sdw (w : Nat) : PyData → Bool
  | .int i => decide (i.natAbs < 10 ^ 40)
  | .str x => plainS x && decide (x.length ≤ 10)
  | .list ds => decide (ds.length ≤ w) && sdws w ds
  | .tuple ds => decide (ds.length ≤ w) && sdws w ds
  | .dict kvs => isD01 kvs
  | _ => true
def sdws (w : Nat) : List PyData → Bool
  | [] => true
  | d :: ds => sdw w d && sdws w ds
end
def BW (w : Nat) : Nat → Nat
  | 0 => 42
  | n + 1 => (w + 1) * (BW w n + 2) + 3
theorem BW_ge (w : Nat) : ∀ n, 42 ≤ BW w n
  | 0 => Nat.le_refl _
  | n + 1 => by
    have := BW_ge w n
    simp only [BW]
    have : 1 * (BW w n + 2) ≤ (w + 1) * (BW w n + 2) := Nat.mul_le_mul_right _ (by omega)
    omega
theorem sdws_iff : ∀ {w : Nat} {ds : List PyData}, sdws w ds = true ↔ ∀ d ∈ ds, sdw w d = true
  | _, [] => by simp [sdws]
  | _, d :: ds => by simp [sdws, sdws_iff]
theorem szw_all (w : Nat) : ∀ (n : Nat) (d : PyData), sdw w d = true → d.depth ≤ n → d.showable = true ∧ cq (BW w n) d.shown
  | n, .none, _, _ => ⟨(rq_none (n := 0) (m := 42) (by omega)).sh, (rq_none (n := 0) (m := 42) (by omega)).tx.mono (BW_ge w n)⟩
  | n, .bool b, _, _ => ⟨(rq_bool (n := 0) (m := 42) b (by omega)).sh, (rq_bool (n := 0) (m := 42) b (by omega)).tx.mono (BW_ge w n)⟩
  | n, .int i, h, _ => by
    have q := rq_int10 (n := 0) (m := 42) (k := 40) (i := i) (by omega) (by omega) (by simpa [sdw] using h) (by omega)
    exact ⟨q.sh, q.tx.mono (BW_ge w n)⟩
  | n, .str x, h, _ => by
    simp only [sdw, Bool.and_eq_true, decide_eq_true_eq] at h
    have q := rq_str (n := 0) (k := 10) h.1 h.2
    exact ⟨q.sh, q.tx.mono (by have := BW_ge w n; omega)⟩
  | 0, .list ds, _, h => by simp [PyData.depth] at h
  | 0, .tuple ds, _, h => by simp [PyData.depth] at h
  | n + 1, .list ds, h, hd => by
    simp only [sdw, Bool.and_eq_true, decide_eq_true_eq, sdws_iff] at h
    simp only [PyData.depth, Nat.add_le_add_iff_right, depthAll_iff] at hd
    have ih : ∀ d ∈ ds, d.showable = true ∧ cq (BW w n) d.shown := fun d hm => szw_all w n d (h.2 d hm) (hd d hm)
    exact ⟨by simp only [PyData.showable, showAll_iff]; exact fun d hm => (ih d hm).1, cq_list (fun d hm => (ih d hm).2) (Nat.le_succ_of_le h.1)⟩
  | n + 1, .tuple ds, h, hd => by
    simp only [sdw, Bool.and_eq_true, decide_eq_true_eq, sdws_iff] at h
    simp only [PyData.depth, Nat.add_le_add_iff_right, depthAll_iff] at hd
    have ih : ∀ d ∈ ds, d.showable = true ∧ cq (BW w n) d.shown := fun d hm => szw_all w n d (h.2 d hm) (hd d hm)
    exact ⟨by simp only [PyData.showable, showAll_iff]; exact fun d hm => (ih d hm).1, cq_tuple (fun d hm => (ih d hm).2) (Nat.le_succ_of_le h.1)⟩
  | n, .dict kvs, h, _ => by
    have : kvs = [] ∨ kvs = [(.int 0, .int 1)] := by
      simp only [sdw] at h
      unfold isD01 at h
      split at h
      · exact .inl rfl
      · exact .inr rfl
      · cases h
    rcases this with rfl | rfl
    · exact ⟨by decide +kernel, cq.mono (m := 42) ⟨by decide +kernel, by decide +kernel⟩ (BW_ge w n)⟩
    · exact ⟨by decide +kernel, cq.mono (m := 42) ⟨by decide +kernel, by decide +kernel⟩ (BW_ge w n)⟩
/-- repr of small data without dicts, or without lists -/
theorem reprW_of {w n : Nat} {d : PyData} (h : sdw w d = true) (hd : d.depth ≤ n) (hn : n ≤ 60) (hb : BW w n ≤ 16000000) (hk : noDict d = true ∨ noList d = true) : gReprB [d] = some (.str d.shown) := by
  obtain ⟨h1, h2⟩ := szw_all w n d h hd
  have h3 : TxOk d.shown := h2.tx (Nat.le_trans hb (by decide))
  have hd' : d.depth ≤ 60 := by omega
  unfold gReprB
  by_cases hn : noDict d = true
  · have : gReprA [d] = some (.str d.shown) := if_pos (by simp [reprOk, hn, h1, hd', h3])
    rw [this]
  · have hl : noList d = true := hk.resolve_left hn
    have : gReprA [d] = none := if_neg (by simp [reprOk, hn])
    rw [this]
    exact if_pos (by simp [reprOkD, hl, h1, hd', h3])
end DL
/-! a dict compared with texts -/
namespace DL
open PySem PySem.Builtin L2 PyProof.Rows SeqAt
theorem dict_eq_declines_str (l : Addr) (es : Array DictEntry) (ep : Nat) (dd : Option Addr) (sl : Array (Option Value)) (b : Str) (u : Tok) :
    Meets (Builtin.«dict.__eq__» ⟨[.ref l, .str b u], []⟩) (fun _ R s => s.heap.get? l = some { cls := .type "dict", dict := dd, data := .dict es ep, slots := sl } ∧ R (.ok (.ret .notImplemented)) s) :=
  .of_wp fun prog w A R s h => by obtain ⟨hp, g, d, tk, os⟩ := s; obtain ⟨hl, h⟩ := h; have f1 := F.sub_str_dict; wp_walk using wpAny_loadPart' hl, wpAny_load hl; exact ⟨_, rfl, h⟩
theorem str_eq_declines_dict (b : Str) (u : Tok) (l : Addr) (es : Array DictEntry) (ep : Nat) (dd : Option Addr) (sl : Array (Option Value)) :
    Meets (Builtin.«str.__eq__» ⟨[.str b u, .ref l], []⟩) (fun _ R s => s.heap.get? l = some { cls := .type "dict", dict := dd, data := .dict es ep, slots := sl } ∧ R (.ok (.ret .notImplemented)) s) :=
  .of_wp fun prog w A R s h => by obtain ⟨hp, g, d, tk, os⟩ := s; obtain ⟨hl, h⟩ := h; wp_walk using wpAny_loadPart' hl, wpAny_load hl; exact ⟨_, rfl, h⟩
def IsDct (h : Heap) (l : Addr) : Prop := ∃ o es ep, h.get? l = some o ∧ o.cls = .type "dict" ∧ o.data = .dict es ep
section
variable {A : Around} {s : Shared}
theorem rc_dict_str {l : Addr} (hl : IsDct s.heap l) (hu : A.units < cLine) (b : Str) (u : Tok) : RcAt A s (.ref l) (.str b u) false := fun prog w E Q h => by
  obtain ⟨⟨cls, dd, data, sl⟩, es, ep, ho, hc, hd⟩ := hl
  simp only at hc hd
  subst hc hd
  exact rc_eq_decline_or (k := false) ⟨_, ho, rfl⟩ (typeIs_str s b u) (by decide) F.sub_str_dict F.slot_dict_eq F.slot_str_eq_refl
    (fun _ hq => call_meets F.slot_dict_eq ⟨_, ho, rfl⟩ F.entry_dict_eq (F.args_dict_eq_2 _ _) (dict_eq_declines_str l es ep dd sl b u) ⟨ho, hq⟩)
    (fun _ hq => call_meets F.slot_str_eq_refl (typeIs_str s b u) F.entry_str_eq (F.args_str_eq_2 _ _) (str_eq_declines_dict b u l es ep dd sl) ⟨ho, hq⟩)
    (fun _ hq => wpAny_of_eq (rfl : isSame (.ref l) (.str b u) = pure false) hq) (.inr hu) h
theorem eq_str_dict {l : Addr} (hl : IsDct s.heap l) (hu : A.units < cLine) (b : Str) (u : Tok) : EqAt A s (.str b u) (.ref l) false := fun prog w E Q h => by
  obtain ⟨⟨cls, dd, data, sl⟩, es, ep, ho, hc, hd⟩ := hl
  simp only at hc hd
  subst hc hd
  unfold eqBool
  refine wpAny_holding ?_
  refine wpAny_ite_split (fun hab => absurd (eq_of_beq hab) nofun) (fun _ => ?_)
  refine wpAny_bind ?_
  exact rc_eq_decline_or (k := false) (typeIs_str s b u) ⟨_, ho, rfl⟩ (by decide) F.sub_dict_str F.slot_str_eq F.slot_dict_eq_refl
    (fun _ hq => call_meets F.slot_str_eq (typeIs_str s b u) F.entry_str_eq (F.args_str_eq_2 _ _) (str_eq_declines_dict b u l es ep dd sl) ⟨ho, hq⟩)
    (fun _ hq => call_meets F.slot_dict_eq_refl ⟨_, ho, rfl⟩ F.entry_dict_eq (F.args_dict_eq_2 _ _) (dict_eq_declines_str l es ep dd sl b u) ⟨ho, hq⟩)
    (fun _ hq => wpAny_of_eq (rfl : isSame (.str b u) (.ref l) = pure false) hq) (.inr hu) (wpAny_truthy_bool h)
end
def rEqK : R2 := fun x y H Q => ∃ a kvs b, x = .ref a ∧ Rd H a (.dK kvs) ∧ y = .str b ∧ Q (.bl false) H
def rNotInK (K : PySem.W.Frag) : R2 := fun x y H Q => ∃ a kvs l, ∃ xs : List Str, x = .ref a ∧ Rd H a (.dK kvs) ∧ y = .ref l ∧ SqL K H l (xs.map V.str) ∧ Q (.bl true) H
section
variable {X : Cx} {W : WX}
theorem isDct_of {pins : List (Addr × Obj)} {σ : L2.St} {H : Hp} {s : Shared} {a : Addr} {kvs : List (Key × V)} (I : Inv X pins σ H s) (h : Rd H a (.dK kvs)) : IsDct s.heap a := by
  obtain ⟨z, hsm, vs, kv, o, es, ep, ho, hex, hd, _⟩ := h.ok I.hok
  exact ⟨o, es, ep, ho, hex.1, hd⟩
theorem op_eqK (hu : X.A.units + 64 < cLine) : OpR X (compareOp .Eq) rEqK := by
  intro pins s σ H x y v u Q I rx ry h
  obtain ⟨a, kvs, b, rfl, hr, rfl, q⟩ := h
  cases rx
  obtain ⟨t, rfl⟩ := ry
  exact rc_dict_str (isDct_of I hr) (by omega) b t _ _ _ _ ⟨.bl false, H, I, rfl, q⟩
theorem op_notInK (hu : X.A.units + 65 < cLine) : OpR X (compareOp .NotIn) (rNotInK X.K) := by
  intro pins s σ H x y v u Q I rx ry h
  obtain ⟨a, kvs, l, xs, rfl, hr, rfl, hl, q⟩ := h
  cases rx
  cases ry
  obtain ⟨its, r, pl, hz⟩ := I.list hl
  refine notIn_listAt (fun _ => false) pl.isList (fun y hy => ?_) ?_
  · obtain ⟨i, hi⟩ := List.getElem?_of_mem (show y ∈ its by simpa using hy)
    obtain ⟨t, rfl⟩ := SS.strs_at (strsAre_of r) i y hi
    exact eq_str_dict (isDct_of I hr) (by show X.A.units + 1 < cLine; omega) _ _
  · have : (its.toArray.any fun _ => false) = false := by simp
    rw [this]
    exact ⟨.bl true, H, I, rfl, q⟩
def gEqK : PyData → PyData → Option PyData
  | .dict _, .str _ => some (.bool false)
  | _, _ => none
def gEqB : PyData → PyData → Option PyData := orG gEq gEqK
theorem o_eqB (hu : X.A.units + 64 < cLine) : Op2 X (compareOp .Eq) gEqB := by
  refine (o_eq hu).or ⟨_, op_eqK hu, fun S H x y dx dy dz Q e rx ry eq p => ?_⟩
  unfold gEqK at eq
  split at eq
  · cases eq
    obtain ⟨rfl, _⟩ := ry.str_inv
    cases rx with
    | dct h1 h2 => exact ⟨_, _, _, rfl, e.rd h1, rfl, p.bl e⟩
  · cases eq
def gNotInD : PyData → PyData → Option PyData
  | .dict _, .list ds => match strsOf ds with
    | some _ => some (.bool true)
    | none => none
  | _, _ => none
def gNotInM : PyData → PyData → Option PyData := orG gNotIn gNotInD
theorem o_notInM (hu : X.A.units + 65 < cLine) : Op2 X (compareOp .NotIn) gNotInM := by
  refine (o_notin hu).or ⟨_, op_notInK hu, fun S H x y dx dy dz Q e rx ry eq p => ?_⟩
  unfold gNotInD at eq
  split at eq
  · split at eq
    · cases eq
      rename_i xs hx
      obtain ⟨l, vs, rfl, g1, r1⟩ := ry.lst_inv
      rw [r1.strs hx] at g1
      cases rx with
      | dct h1 h2 => exact ⟨_, _, l, xs, rfl, e.rd h1, rfl, e.l (SqL.of g1), p.bl e⟩
    · cases eq
  · cases eq
end
end DL
/-! small data of any width and any length of texts: their repr is known -/
namespace DL
open PySem PySem.Builtin L2 PyProof.Rows
mutual
def sdg (w t : Nat) : PyData → Bool
  | .int i => decide (i.natAbs < 10 ^ 40)
  | .str x => plainS x && decide (x.length ≤ t)
  | .list ds => decide (ds.length ≤ w) && sdgs w t ds
  | .tuple ds => decide (ds.length ≤ w) && sdgs w t ds
  | .dict kvs => isD01 kvs
  | _ => true
def sdgs (w t : Nat) : List PyData → Bool
  | [] => true
  | d :: ds => sdg w t d && sdgs w t ds
end
def BG (w t : Nat) : Nat → Nat
  | 0 => 2 * t + 44
  | n + 1 => (w + 1) * (BG w t n + 2) + 3
theorem BG_ge (w t : Nat) : ∀ n, 2 * t + 44 ≤ BG w t n
  | 0 => Nat.le_refl _
  | n + 1 => by
    have := BG_ge w t n
    simp only [BG]
    have : 1 * (BG w t n + 2) ≤ (w + 1) * (BG w t n + 2) := Nat.mul_le_mul_right _ (by omega)
    omega
theorem sdgs_iff : ∀ {w t : Nat} {ds : List PyData}, sdgs w t ds = true ↔ ∀ d ∈ ds, sdg w t d = true
  | _, _, [] => by simp [sdgs]
  | _, _, d :: ds => by simp [sdgs, sdgs_iff]
theorem szg_all (w t : Nat) : ∀ (n : Nat) (d : PyData), sdg w t d = true → d.depth ≤ n → d.showable = true ∧ cq (BG w t n) d.shown
  | n, .none, _, _ => ⟨(rq_none (n := 0) (m := 42) (by omega)).sh, (rq_none (n := 0) (m := 42) (by omega)).tx.mono (by have := BG_ge w t n; omega)⟩
  | n, .bool b, _, _ => ⟨(rq_bool (n := 0) (m := 42) b (by omega)).sh, (rq_bool (n := 0) (m := 42) b (by omega)).tx.mono (by have := BG_ge w t n; omega)⟩
  | n, .int i, h, _ => by
    have q := rq_int10 (n := 0) (m := 42) (k := 40) (i := i) (by omega) (by omega) (by simpa [sdg] using h) (by omega)
    exact ⟨q.sh, q.tx.mono (by have := BG_ge w t n; omega)⟩
  | n, .str x, h, _ => by
    simp only [sdg, Bool.and_eq_true, decide_eq_true_eq] at h
    have q := rq_str (n := 0) (k := t) h.1 h.2
    exact ⟨q.sh, q.tx.mono (by have := BG_ge w t n; omega)⟩
  | 0, .list ds, _, h => by simp [PyData.depth] at h
  | 0, .tuple ds, _, h => by simp [PyData.depth] at h
  | n + 1, .list ds, h, hd => by
    simp only [sdg, Bool.and_eq_true, decide_eq_true_eq, sdgs_iff] at h
    simp only [PyData.depth, Nat.add_le_add_iff_right, depthAll_iff] at hd
    have ih : ∀ d ∈ ds, d.showable = true ∧ cq (BG w t n) d.shown := fun d hm => szg_all w t n d (h.2 d hm) (hd d hm)
    exact ⟨by simp only [PyData.showable, showAll_iff]; exact fun d hm => (ih d hm).1, cq_list (fun d hm => (ih d hm).2) (Nat.le_succ_of_le h.1)⟩
  | n + 1, .tuple ds, h, hd => by
    simp only [sdg, Bool.and_eq_true, decide_eq_true_eq, sdgs_iff] at h
    simp only [PyData.depth, Nat.add_le_add_iff_right, depthAll_iff] at hd
    have ih : ∀ d ∈ ds, d.showable = true ∧ cq (BG w t n) d.shown := fun d hm => szg_all w t n d (h.2 d hm) (hd d hm)
    exact ⟨by simp only [PyData.showable, showAll_iff]; exact fun d hm => (ih d hm).1, cq_tuple (fun d hm => (ih d hm).2) (Nat.le_succ_of_le h.1)⟩
  | n, .dict kvs, h, _ => by
    have : kvs = [] ∨ kvs = [(.int 0, .int 1)] := by
      simp only [sdg] at h
      unfold isD01 at h
      split at h
      · exact .inl rfl
      · exact .inr rfl
      · cases h
    rcases this with rfl | rfl
    · exact ⟨by decide +kernel, cq.mono (m := 42) ⟨by decide +kernel, by decide +kernel⟩ (by have := BG_ge w t n; omega)⟩
    · exact ⟨by decide +kernel, cq.mono (m := 42) ⟨by decide +kernel, by decide +kernel⟩ (by have := BG_ge w t n; omega)⟩
/-- repr of small data without dicts, or without lists -/
theorem reprG_of {w t n : Nat} {d : PyData} (h : sdg w t d = true) (hd : d.depth ≤ n) (hn : n ≤ 60) (hb : BG w t n ≤ 16000000) (hk : noDict d = true ∨ noList d = true) : gReprB [d] = some (.str d.shown) := by
  obtain ⟨h1, h2⟩ := szg_all w t n d h hd
  have h3 : TxOk d.shown := h2.tx (Nat.le_trans hb (by decide))
  have hd' : d.depth ≤ 60 := by omega
  unfold gReprB
  by_cases hn : noDict d = true
  · have : gReprA [d] = some (.str d.shown) := if_pos (by simp [reprOk, hn, h1, hd', h3])
    rw [this]
  · have hl : noList d = true := hk.resolve_left hn
    have : gReprA [d] = none := if_neg (by simp [reprOk, hn])
    rw [this]
    exact if_pos (by simp [reprOkD, hl, h1, hd', h3])
end DL
/-! xs.count(y), xs.index(y): lists of flat data -/
namespace DL
open PySem L2
section
variable {X : Cx} {W : WX}
def rCntF (K : PySem.W.Frag) : V → List V → Hp → VK → Prop := fun x xs H Q => ∃ (a : Addr) (ys : List V) (y : V), x = V.ref a ∧ xs = [y] ∧ SqL K H a ys ∧ flatV y = true ∧ ys.all flatV = true ∧ Q (.int ((ys.countP fun z => eqV z y) : Nat)) H
theorem cnt_eq {y : V} : ∀ {ys : List V} {us : List Value}, Vals ys us → ys.all flatV = true → us.countP (eqU y) = ys.countP fun z => eqV z y
  | _, _, .nil, _ => rfl
  | _, _, .cons r t, f => by
    simp only [List.all_cons, Bool.and_eq_true] at f
    rw [List.countP_cons, List.countP_cons, cnt_eq t f.2, eqU_of r f.1]
theorem mt_countF : MtR X "list.count" (rCntF X.K) := by
  intro pins s σ H x xs v us Q I rx rxs h
  obtain ⟨a, ys, y, rfl, rfl, hs, fy, fys, q⟩ := h
  cases rx
  cases rxs with
  | cons ry rt =>
    rename_i uy ut
    cases rt
    obtain ⟨its, rv, ⟨⟨cls, dd, data, sl⟩, n, ho, hc, hdn, hd⟩, hlen⟩ := I.list hs
    simp only at hc hd
    subst hc hd
    refine call_meets PySem.F.slot_list_count ⟨_, ho, rfl⟩ PySem.F.entry_list_count (PySem.F.args_list_count_2 _ _)
      (SeqAt.list_countAt a its.toArray n dd sl uy (eqU y)) ⟨ho, fun u' hu' => mem_eqAt ry fy rv fys u' (by simpa using hu'), ?_⟩
    refine ⟨.int ((ys.countP fun z => eqV z y) : Nat), H, I.tok _, ⟨s.toks, ?_⟩, q⟩
    show Value.int ((its.countP (eqU y) : Nat) : Int) s.toks = _
    rw [cnt_eq rv fys]
def asL : PyData → Option (List PyData)
  | .list ds => some ds
  | _ => none
def gCount (ds : List PyData) (d : PyData) : Option PyData := if DL.flat d = true ∧ ds.all DL.flat = true then some (.int ((ds.countP fun z => PyData.eqv z d) : Nat)) else none
def gIndex (ds : List PyData) (d : PyData) : Option PyData := if DL.flat d = true ∧ ds.all DL.flat = true then (ds.findIdx? fun z => PyData.eqv z d).map fun j => .int (j : Nat) else none
theorem RpAll.countV {K : PySem.W.Frag} {S : Hp} {w : V} {e : PyData} (g : Rp K S w e) (he : DL.flat e = true) : ∀ {vs : List V} {ds : List PyData}, RpAll K S vs ds → ds.all DL.flat = true → (vs.countP fun z => L2.eqV z w) = ds.countP fun z => PyData.eqv z e
  | _, _, .nil, _ => rfl
  | _, _, .cons h r, n => by
    simp only [List.all_cons, Bool.and_eq_true] at n
    rw [List.countP_cons, List.countP_cons, RpAll.countV g he r n.2, h.eqV g n.1 he]
variable {a b : Expr} {fa fb : M PyData} {apos pos : Pos}
theorem de_lcount (ha : DE X W a fa) (hb : DE X W b fb) (hbase : attributeBase a "count" X.env (eval a X.env) = eval a X.env := by rfl)
    (hfew : ((backTo pos (starEach [b] X.env)).all (fun x => !x.1) && (backToKw pos (keywordEach [] X.env)).all (fun x => x.1.isSome) && decide (([b] : List Expr).length + ([] : List Keyword).length + (if ([] : List Keyword).isEmpty then 0 else 1) < 30)) = true := by rfl)
    (hline : (apos.endLine == pos.line) = true := by rfl) (hs : starEach [b] X.env = (false, eval b X.env) :: starEach [] X.env := by rfl) (hplain : (backTo pos (starEach [] X.env)).any (·.1) = false := by rfl) :
    DE X W (.Call (.Attribute a "count" apos) [b] [] pos) (fa >>= fun x => M.lift (asL x) >>= fun xs => fb >>= fun y => M.lift (gCount xs y)) := by
  refine PE_mono (pe_bm PySem.F.plainAttrs_list PySem.F.slot_list_count PySem.F.type_list_count mt_countF ha (pa_cons hb pa_nil hs) hbase hfew hline hs hplain) fun σ H Q ⟨F, P, S, env, rel, post⟩ => ?_
  refine ⟨F, P, S, env, rel, Post.step post fun d e p v S1 H1 rel1 ex1 rp1 => ?_⟩
  obtain ⟨ds, ed, p2⟩ := (Post.step p (R' := fun c e2 => _) fun c e2 q => q).lift
  unfold asL at ed
  split at ed
  · cases ed
    obtain ⟨l, xs, rfl, g1, r1⟩ := rp1.lst_inv
    refine ⟨.inl ⟨rfl, xs, rel1.sh.l (SqL.of g1)⟩, ?_⟩
    refine ⟨F, P, S1, e, rel1, (Post.step p2 (R' := fun c e2 => _) fun c e2 q => q).mono ex1 fun y e2 p3 u S2 H2 rel2 ex2 rp2 => ?_⟩
    obtain ⟨dz, ez, q⟩ := p3.lift
    unfold gCount at ez
    split at ez
    · rename_i hf
      cases ez
      refine ⟨l, xs, u, rfl, rfl, rel2.sh.l (ex2.l (SqL.of g1)), rp2.flat hf.1, (r1.mono ex2).flat hf.2, ?_⟩
      rw [RpAll.countV rp2 hf.1 (r1.mono ex2) hf.2]
      exact q _ S2 H2 rel2 (ex1.trans ex2) (.int _)
    · cases ez
  · cases ed
theorem de_lindex (ha : DE X W a fa) (hb : DE X W b fb) (hbase : attributeBase a "index" X.env (eval a X.env) = eval a X.env := by rfl)
    (hfew : ((backTo pos (starEach [b] X.env)).all (fun x => !x.1) && (backToKw pos (keywordEach [] X.env)).all (fun x => x.1.isSome) && decide (([b] : List Expr).length + ([] : List Keyword).length + (if ([] : List Keyword).isEmpty then 0 else 1) < 30)) = true := by rfl)
    (hline : (apos.endLine == pos.line) = true := by rfl) (hs : starEach [b] X.env = (false, eval b X.env) :: starEach [] X.env := by rfl) (hplain : (backTo pos (starEach [] X.env)).any (·.1) = false := by rfl) :
    DE X W (.Call (.Attribute a "index" apos) [b] [] pos) (fa >>= fun x => M.lift (asL x) >>= fun xs => fb >>= fun y => M.lift (gIndex xs y)) := by
  refine PE_mono (pe_bm PySem.F.plainAttrs_list PySem.F.slot_list_index PySem.F.type_list_index mt_index ha (pa_cons hb pa_nil hs) hbase hfew hline hs hplain) fun σ H Q ⟨F, P, S, env, rel, post⟩ => ?_
  refine ⟨F, P, S, env, rel, Post.step post fun d e p v S1 H1 rel1 ex1 rp1 => ?_⟩
  obtain ⟨ds, ed, p2⟩ := (Post.step p (R' := fun c e2 => _) fun c e2 q => q).lift
  unfold asL at ed
  split at ed
  · rename_i ds0
    cases ed
    obtain ⟨l, xs, rfl, g1, r1⟩ := rp1.lst_inv
    refine ⟨.inl ⟨rfl, xs, rel1.sh.l (SqL.of g1)⟩, ?_⟩
    refine ⟨F, P, S1, e, rel1, (Post.step p2 (R' := fun c e2 => _) fun c e2 q => q).mono ex1 fun y e2 p3 u S2 H2 rel2 ex2 rp2 => ?_⟩
    obtain ⟨dz, ez, q⟩ := p3.lift
    unfold gIndex at ez
    split at ez
    · rename_i hf
      obtain ⟨j, hj, rfl⟩ := Option.map_eq_some_iff.mp ez
      obtain ⟨hjl, hje, hjn⟩ := List.findIdx?_eq_some_iff_getElem.mp hj
      have r2 := r1.mono ex2
      have fall := List.all_eq_true.mp hf.2
      obtain ⟨z, hz, rz⟩ := r2.get' (List.getElem?_eq_getElem hjl)
      refine ⟨l, xs, u, j, z, rfl, rfl, rel2.sh.l (ex2.l (SqL.of g1)), rp2.flat hf.1, r2.flat hf.2, hz, ?_, fun m z' hm hz' => ?_, q _ S2 H2 rel2 (ex1.trans ex2) (.int _)⟩
      · rw [rz.eqV rp2 (fall _ (List.getElem_mem hjl)) hf.1]; exact hje
      · obtain ⟨dm, h1, h2⟩ := r2.get hz'
        obtain ⟨hml, hme⟩ := List.getElem?_eq_some_iff.mp h1
        rw [h2.eqV rp2 (fall _ (List.mem_of_getElem? h1)) hf.1]
        have := hjn m hm
        rw [hme] at this
        simpa using this
    · cases ez
  · cases ed
end
end DL
/-! x(lambda: e): a def that calls what it got, in a try -/
namespace DL
open PySem PySem.Spec L2 PyProof.Rows LamX
/-! ### a table has grown -/
def Gro (K : PySem.W.Frag) (P : Addr) (q : Str) (H H1 : Hp) : Prop := H1 = H ∨ ∃ (ps : Array Value) (pos : Pos) (c : Addr), H P = some (.tbl ps) ∧ H c = none ∧ H1 = upd (upd H P (.tbl (ps ++ #[rawInt pos.line, rawInt pos.col, .ref c]))) c (CodeO c q)
theorem Gro.ex {K : PySem.W.Frag} {P : Addr} {q : Str} {H H1 : Hp} (g : Gro K P q H H1) : ExN H H1 := by
  rcases g with rfl | ⟨ps, pos, c, h1, h2, rfl⟩
  · exact (Ex.refl _).n
  · intro b o e n
    rw [upd_ne (ne_of_none e h2), upd_ne (fun z => by rw [z, h1] at e; exact n ps (Option.some.inj e).symm)]
    exact e
theorem Gro.tb {K : PySem.W.Frag} {P : Addr} {q : Str} {H H1 : Hp} (g : Gro K P q H H1) (t : TbH K H) (hm : P ∈ (tbK K).map Prod.fst) (t1 : Tabs (tbK K) H1) : TbH K H1 := by
  refine ⟨t1, fun a ps e => ?_⟩
  rcases g with rfl | ⟨qs, pos, c, h1, h2, rfl⟩
  · exact t.only a ps e
  · by_cases hc : a = c
    · rw [hc, upd_same] at e
      exact absurd (Option.some.inj e) (codeO_ne ps)
    · rw [upd_ne hc] at e
      by_cases hP : a = P
      · rw [hP]; exact hm
      · rw [upd_ne hP] at e
        exact t.only a ps e
theorem RelE.tabs {K : PySem.W.Frag} {mg : Str → Option Value} {F S H H1 : Hp} {P : List (Option Addr)} {σ : L2.St} {env : Sl} (r : RelE K mg F P S H σ env) (e : ExN H H1) (t : TbH K H1) : RelE K mg F P S H1 σ env where
  sh := r.sh.transN r.ns e
  fh := r.fh.transN r.nf e
  dj := r.dj
  tb := t
  ns := r.ns
  nf := r.nf
  len := r.len
  ats := fun i s q => by
    have h := r.ats i s q
    cases s with
    | mt b m =>
      obtain ⟨p, o, h1, h2, h3, h4, h5, h6⟩ := h
      exact ⟨p, o, h1, e p o h2 h5.nt.ne, h3, h4, h5, h6⟩
    | _ => exact h
  uq := r.uq
/-! ### the lambda is made -/
section
variable {X : Cx} {pins : List (Addr × Obj)} {σ : L2.St} {H : Hp} {s : Shared}
theorem lam_new {c P : Addr} {params : Arguments} {body : Expr} {scope : Scope} {pos : Pos} {E : Value → Shared → Prop} {Q : Value → Shared → Prop} (I : Inv X pins σ H s) (TB : TabB X.base X.mg c P) (hcode : X.env.code = .ref c)
    (hT : TbH X.K H) (hm : (P, X.env.qual ++ "<lambda>") ∈ tbK X.K) (hu : ∀ p ∈ tbK X.K, p.1 = P → p.2 = X.env.qual ++ "<lambda>") (hdef : defaultsOf params X.env = ([], [])) (hfree : ∀ y ∈ scope.names, y.2 = .free → ∃ c, X.env.cells.lookup y.1 = some c)
    (h : ∀ (f c' : Addr) (pm ctv : Value) (H1 : Hp) (s' : Shared), Inv X pins σ H1 s' → ExN H H1 → TbH X.K H1 →
      s'.heap.get? f = some (PySem.W.kla_obj "<lambda>" (X.env.qual ++ "<lambda>") params body scope (cloFrom X.env.cells scope.names []) pm c' ctv) → H1 f = none → f ∉ frs X.stack → H1 c' = some (CodeO c' (X.env.qual ++ "<lambda>")) → Q (.ref f) s') :
    wpAny (model X.prog X.w) X.A (eval (.Lambda params body scope pos) X.env) Q E s := by
  have hmP : P ∈ (tbK X.K).map Prod.fst := List.mem_map.mpr ⟨_, hm, rfl⟩
  obtain ⟨ps, hP, ht, ha⟩ := hT.ok _ hm
  have bP : s.heap.BuiltinsAt X.mg P := TB.bm.keeps I.bk
  have hP' : s.heap.get? P = some { cls := .none, data := .fields ps } := I.hok P _ hP
  have far : ∀ f, s.heap.objs.size ≤ f → f ∉ frs X.stack := by
    intro f hf z
    rcases List.mem_cons.mp (I.stkSub _ z) with e | e
    · have h1 := I.lt
      rw [← e] at h1
      exact Nat.lt_irrefl _ (Nat.lt_of_lt_of_le h1 hf)
    · exact I.nofs hf e
  refine PySem.W.kla_eval hdef ?_
  cases hc : codeAmong pos ps.toList with
  | none =>
    refine PySem.W.kla_makeFunction (mg := X.mg) (c := c) (P := P) (ps := ps) (closure_ok hfree) I.ok.glob (I.mod.glob.keeps I.bk) hcode (TB.code.keeps I.bk) hP' ht hc TB.gP bP fun c' ctv h' tk hx hge hlt hrec htb => ?_
    obtain ⟨c2, oc, vs, t, e2, hoc, hd, hv⟩ := hrec
    cases e2
    have big : s.heap.objs.size ≤ h'.objs.size := Nat.le_trans hge (Nat.le_of_lt hlt)
    have nC : H c' = none := I.hok.fresh hge
    let H1 : Hp := upd (upd H P (.tbl (ps ++ #[rawInt pos.line, rawInt pos.col, .ref c']))) c' (CodeO c' (X.env.qual ++ "<lambda>"))
    have g : Gro X.K P (X.env.qual ++ "<lambda>") H H1 := .inr ⟨ps, pos, c', hP, nC, rfl⟩
    have eL : (ps ++ #[rawInt pos.line, rawInt pos.col, .ref c']).toList = ps.toList ++ [rawInt pos.line, rawInt pos.col, .ref c'] := by simp
    have tabs : Tabs (tbK X.K) H1 := fun p hp => by
      by_cases hb : p.1 = P
      · rw [hu p hp hb, hb]
        refine ⟨_, show H1 P = _ by rw [show H1 P = (upd H P (.tbl (ps ++ #[rawInt pos.line, rawInt pos.col, .ref c']))) P from upd_ne (ne_of_none hP nC), upd_same], by rw [eL]; exact PySem.TriplesOk_snoc _ _ _ _ ht, fun p' cv hcv => ?_⟩
        rw [eL] at hcv
        rcases among_app _ ht hcv with z | z
        · obtain ⟨c0, e1, e2⟩ := ha p' cv z
          exact ⟨c0, e1, g.ex _ _ e2 codeO_ne⟩
        · exact ⟨c', z, upd_same⟩
      · obtain ⟨ps', a1, a2, a3⟩ := hT.ok p hp
        refine ⟨ps', show H1 p.1 = _ by rw [show H1 p.1 = (upd H P _) p.1 from upd_ne (ne_of_none a1 nC), upd_ne hb]; exact a1, a2, fun p' cv hcv => ?_⟩
        obtain ⟨c0, e1, e2⟩ := a3 p' cv hcv
        exact ⟨c0, e1, g.ex _ _ e2 codeO_ne⟩
    have I1 : Inv X pins σ H1 _ := inv_table (t' := tk) (more := #[rawInt pos.line, rawInt pos.col, .ref c']) (h' := h'.push (PySem.W.kla_obj "<lambda>" (X.env.qual ++ "<lambda>") params body scope (cloFrom X.env.cells scope.names []) ((X.mg "__name__").getD .none) c' ctv)) I hP
      (fun b o hb e => Heap.get?_push_of_some _ (hx b o hb e)) (Heap.get?_push_of_some _ htb) hge ⟨oc, vs, t, Heap.get?_push_of_some _ hoc, hd, hv⟩
    refine h h'.objs.size c' ((X.mg "__name__").getD .none) ctv H1 _ I1 g.ex (g.tb hT hmP tabs) (Heap.get?_push_size _ rfl) ?_ (far _ big) upd_same
    have n1 : h'.objs.size ≠ c' := Nat.ne_of_gt hlt
    have n2 : h'.objs.size ≠ P := Nat.ne_of_gt (Nat.lt_of_lt_of_le (Heap.lt_size hP') big)
    show upd (upd H P _) c' _ h'.objs.size = none
    rw [upd_ne n1, upd_ne n2]
    exact I.hok.fresh big
  | some cv =>
    obtain ⟨c', e, hco⟩ := ha pos cv hc
    subst e
    refine PySem.W.kla_makeFunctionHit (mg := X.mg) (c := c) (P := P) (ps := ps) (closure_ok hfree) I.ok.glob (I.mod.glob.keeps I.bk) hcode (TB.code.keeps I.bk) hP' ht hc bP fun ctv h' tk hx hsz => ?_
    exact h h'.objs.size c' ((X.mg "__name__").getD .none) ctv H _ (I.kept fun b o e => Heap.get?_push_of_some _ (hx b o e)) (Ex.refl H).n hT (Heap.get?_push_size _ rfl) (I.hok.fresh hsz) (far _ hsz) hco
/-- it is called, in the def that got it -/
theorem lam_act {Ng : List Str} {qg : Str} {sg : Scope} {g f c' : Addr} {cdg pm ctv : Value} {params : Arguments} {body : Expr} {scope : Scope} {i : Nat} {a : Str} {pn : List (Addr × Obj)} {xe : Value → Shared → Prop} {W : WX} {t : XK → TE} {p1 p2 : Pos}
    (I : Inv X pins σ H s) (L : LamS X.env.scope scope) (hf : s.heap.get? f = some (PySem.W.kla_obj "<lambda>" (X.env.qual ++ "<lambda>") params body scope (cloFrom X.env.cells scope.names []) pm c' ctv)) (hfn : H f = none) (hfr : f ∉ frs X.stack)
    (hbind : bindArgs (PySem.W.kla_fn "<lambda>" (X.env.qual ++ "<lambda>") params body scope (cloFrom X.env.cells scope.names []) pm (.ref c') ctv) ⟨[], []⟩ = pure [])
    (tk : Takes ((cxOf C8.CX0 X.prog X.w X.K X.mg X.base Ng qg sg g cdg X.A X.stack s H C8.E0).tr pn xe) W) (hr : Room 1 (X.A.deeper (envOfC qg sg s.heap.objs.size g cdg)))
    (hbody : ∀ (E : XK) (outer : List Env) (s2 : Shared) (H : Hp), PE (lamCx X (X.A.deeper (envOfC qg sg s.heap.objs.size g cdg)) outer s2 H E scope f c') body (t E))
    (hN : Ng[i]? = some a) (hv : Vis sg a) (hd : (a == ("__debug__" : Str)) = false) (hcd : (a == ("__classdict__" : Str)) = false) :
    PE ((cxOf C8.CX0 X.prog X.w X.K X.mg X.base Ng qg sg g cdg X.A X.stack s H C8.E0).tr pn xe) (.Call (.Name a p1) [] [] p2)
      (fun σZ HZ Q => σZ[i]? = some (some (.ref f)) ∧ HZ c' = some (CodeO c' (X.env.qual ++ "<lambda>")) ∧ t (fun cls d H' => W cls d σZ H') σ HZ Q) := by
  constructor
  intro pinsZ sZ σZ HZ Q IZ h
  obtain ⟨hs, hc, ht⟩ := h
  refine wpAny_Call_Name_kw (thn ((pe_var (pos := p1) (i := i) hN hv hd hcd).run pinsZ sZ σZ HZ (fun v H1 => v = .ref f ∧ H1 = HZ) IZ ⟨.ref f, hs, rfl, rfl⟩) ?_)
  rintro u s1 ⟨v, H1, I1, r1, rfl, rfl⟩
  obtain rfl : u = Value.ref f := r1
  have of1 : s1.heap.get? f = some (PySem.W.kla_obj "<lambda>" (X.env.qual ++ "<lambda>") params body scope (cloFrom X.env.cells scope.names []) pm c' ctv) := I1.base.keep f _ hf hfn hfr (fun z => nomatch (show f ∈ ([] : List Addr) from z))
  obtain ⟨⟨oc, vs, tt, hoc, hdc, hvc⟩, _, _⟩ := I1.hok c' _ hc
  refine PySem.W.callWith_F0 ⟨_, _, _, _, of1⟩ (wpAny_call (codeAny_mono (R := CR (L2.CX X.prog X.w) (envOfC qg sg s.heap.objs.size g cdg :: X.stack) X.prog X.w H1 s1 Q fun cls d H' => W cls d σZ H') ?_ ?_))
  · refine PySem.W.kla_callFunE hr.depth of1 rfl L.co L.gen rfl ⟨c', oc, vs, tt, rfl, hoc, hdc, hvc⟩ ?_
    show wpAny _ _ (bindArgs _ ⟨[], []⟩) _ _ _
    rw [hbind]
    refine wpAny_pure (wpAny_newFunctionEnv (fun y hy => (L.own y hy).2) (fun y hy => absurd hy (by simp)) (fun h₁ hns hsb => ⟨I1.nolimit.fresh _ hsb, ?_⟩) L.kind)
    have kp : ∀ b o, s1.heap.get? b = some o → h₁.get? b = some o := fun b o e => hsb.extBut b o (Nat.ne_of_lt (Heap.lt_size e)) (Heap.get?_push_of_some _ e)
    have J : Inv (lamCx X (X.A.deeper (envOfC qg sg s.heap.objs.size g cdg)) (envOfC qg sg s.heap.objs.size g cdg :: X.stack) s1 H1 (fun cls d H' => W cls d σZ H') scope f c') [] σ H1 { s1 with heap := h₁, toks := s1.toks + ([] : List (Str × Value)).length } :=
      lam_start2 I L I1.env0 hr.hd I1.base hns kp
    refine PySem.W.kla_codeExpr (wpAny_mono ((hbody _ _ s1 H1).run [] _ _ H1 Q J ht) ?_ fun e s' hq => hq)
    rintro v s' ⟨w', H', J', rv, q⟩
    exact ⟨w', H', J'.os, J'.bare, J'.base, J'.hok, rv, q⟩
  · rintro (e | (_ | _ | _ | u)) s' hq
    · exact tk e s' (XE.of_call I1 (fun _ _ _ z => z) hq)
    · exact hq.elim
    · exact hq.elim
    · exact hq.elim
    · exact I1.after hq
end
end DL
/-! x(lambda: e), x: try: return a() / except E as n: .. -/
namespace DL
open PySem PySem.Spec L2 PyProof.Rows LamX
section
variable {X : Cx}
/-- what is wanted of what the lambda raises -/
def EHd (K : PySem.W.Frag) (CS : Addr) (hd : Value → Option Addr → VK → Hp → Prop) (Q : VK) : XK := fun cls d H' => ∃ b, PySem.W.exmOne K cls (.ref CS) = some b ∧ (b = true → hd cls d Q H') ∧ (b = false → False)
theorem pe_said {x a n e : Str} {g c P CS : Addr} {i : Nat} {pg : Arguments} {sg : Scope} {fd : FuncData} {Ng : List Str} {params : Arguments} {body : Expr} {scope : Scope} {t : XK → TE} {b₀ : Stmt} {suite : List Stmt} {hd : Value → Option Addr → VK → Hp → Prop}
    {p lpos pos p1 p2 p3 p4 p7 p8 : Pos} (hg : Gl X x) (hm : X.mg x = some (.ref g)) (hk : PySem.W.keepIn X.K (.ref g) = true)
    (Fn : FunD X.K x x pg [.Try [.Return (some (.Call (.Name a p1) [] [] p2)) p3] [.ExceptHandler (some (.Name e p4)) (some n) (b₀ :: suite) p7] [] [] p8] sg [] [] g fd) (hb : L2.Binds X.K fd [a] []) (Sg : FnScope Ng [a] sg) (hNg : Ng[0]? = some a) (hva : Vis sg a)
    (hNi : Ng[i]? = some n) (hln : sg.names.lookup n = some .local) (hi0 : i ≠ 0) (hge : sg.names.lookup e = some .globalImplicit) (hme : X.mg e = some (.ref CS)) (hde : (e == ("__debug__" : Str)) = false)
    (hsu : ∀ (cdv : Value) (s : Shared) (H : Hp) (a : Addr) (oe : Obj) (cls : Value) (d : Option Addr) (pn : List (Addr × Obj)), Zc cls d oe → (∃ vs, oe.data = .fields vs) →
      PSs (((cxOf C8.CX0 X.prog X.w X.K X.mg X.base Ng x sg g cdv X.A X.stack s H C8.E0).nox).suite a ((a, oe) :: pn)) (b₀ :: suite) (fun D σ H' => (∃ v, σ = (L2.start Ng [v]).set i (some (.ref a))) ∧ hd cls d D.rt H'))
    (TB : TabB X.base X.mg c P) (hcode : X.env.code = .ref c) (hmT : (P, X.env.qual ++ "<lambda>") ∈ tbK X.K) (hu : ∀ p ∈ tbK X.K, p.1 = P → p.2 = X.env.qual ++ "<lambda>") (hr : Room 2 X.A) (L : LamS X.env.scope scope) (hdef : defaultsOf params X.env = ([], []))
    (hbind : ∀ (q : Str) (cl : List (Str × Addr)) (pm cv ctv : Value), bindArgs (PySem.W.kla_fn "<lambda>" q params body scope cl pm cv ctv) ⟨[], []⟩ = pure [])
    (hbody : ∀ (A : Around) (E : XK) (outer : List Env) (s : Shared) (H : Hp) (f c' : Addr), (∃ env, A = X.A.deeper env) → PE (lamCx X A outer s H E scope f c') body (t E))
    (tm : ∀ (E E' : XK) σ H Q, (∀ cls d H', E cls d H' → E' cls d H') → t E σ H Q → t E' σ H Q)
    (hdb : (x == ("__debug__" : Str)) = false := by decide) (hda : (a == ("__debug__" : Str)) = false := by decide) (hcd : (a == ("__classdict__" : Str)) = false := by decide) :
    PE X (.Call (.Name x p) [.Lambda params body scope lpos] [] pos) (fun σ H Q => TbH X.K H ∧ ∀ H1, ExN H H1 → TbH X.K H1 → t (EHd X.K CS hd Q) σ H1 Q) := by
  obtain ⟨oc, od, dV, kV, doc, pm, an, cdv, ct, osl, rfl, lk, hcg, _, _⟩ := Fn.ex
  constructor
  intro pins s σ H Q I h
  obtain ⟨hT, h⟩ := h
  refine wpAny_Call_Name_kw (ld_glob I hg hm ?_ hdb)
  refine PySem.W.callWith_K (h₀ := X.base) I.ok.mod.kin hk ?_ (by rfl) (by rfl)
  show wpAny _ _ (spliced ((false, eval (.Lambda params body scope lpos) X.env) :: backTo pos (starEach [] X.env))) _ _ s
  refine Calls.spliced_cons (lam_new I TB hcode hT hmT hu hdef (L.has I.ok) fun f c' pm' ctv H1 s' I1 eN T1 hf hfn hfr hco => Calls.spliced_nil ⟨I1.kIn, ?_⟩)
  refine wpAny_call (codeAny_mono (R := CR C8.CX0 X.stack X.prog X.w H1 s' Q C8.E0) ?_ ?_)
  · refine run_ofS (k := 1) (N := Ng) (ps := [a]) (us := [.ref f]) (vs := [.ref f]) lk hcg Sg hr I1.env0 (hb s' [.ref f] I1.kIn rfl) (.cons rfl .nil) rfl fun hr' => ?_
    have hgl : Gl (cxOf C8.CX0 X.prog X.w X.K X.mg X.base Ng x sg g cdv X.A X.stack s' H1 C8.E0).nox e := hge
    refine ⟨_, (pss_one (ps_try_as (X := (cxOf C8.CX0 X.prog X.w X.K X.mg X.base Ng x sg g cdv X.A X.stack s' H1 C8.E0).nox) (c := .ref CS) (i := i)
      (tb := fun W D σZ HZ => σZ[0]? = some (some (.ref f)) ∧ HZ c' = some (CodeO c' (X.env.qual ++ "<lambda>")) ∧ t (fun cls d H' => W cls d σZ H') σ HZ D.rt)
      rfl rfl Sg.nd hNi hln ⟨hgl, hde, .inl hme⟩ LamX.takes0 (fun W pn xe tk _ => ?_) (fun a oe cls d pn hz hf => hsu cdv s' H1 a oe cls d pn hz hf))).nox, ?_⟩
    · have hp := lam_act (p1 := p1) (p2 := p2) (t := t) (i := 0) (Ng := Ng) (a := a) I1 L hf hfn hfr (hbind _ _ _ _ _) tk hr' (fun E outer s2 H => hbody _ E outer s2 H f c' ⟨_, rfl⟩) hNg hva hda hcd
      exact pss_one (ps_ret (pos := p3) hp)
    · have h0 : (L2.start Ng [V.ref f])[0]? = some (some (V.ref f)) := rfl
      refine ⟨h0, hco, tm _ _ _ _ _ (fun cls d H' ⟨b, e1, e2, e3⟩ => ⟨b, e1, fun hb a _ => ⟨⟨.ref f, rfl⟩, e2 hb⟩, fun hb => e3 hb⟩) (h H1 eN T1)⟩
  · rintro (e | (_ | _ | _ | u)) s2 hq
    · exact (show False from hq).elim
    · exact hq.elim
    · exact hq.elim
    · exact hq.elim
    · exact I1.after hq
end
end DL
/-! a caught exception: isinstance(e, C), a def that is handed it; x(lambda: e) as data -/
namespace DL
open PySem PySem.Spec L2 PyProof.Rows LamX
/-! ### the classes -/
structure ExcTab (K : PySem.W.Frag) (mg : Str → Option Value) (ns : List Str) (sub : Str → Str → Bool) : Prop where
  one : ∀ n ∈ ns, ∃ D, mg n = some (.ref D) ∧ ExcC K D ∧ (∀ c ∈ ns, ∃ C, mg c = some (.ref C) ∧ PySem.W.kitOne K (.ref D) (.ref C) = some (sub n c) ∧ PySem.W.exmOne K (.ref D) (.ref C) = some (sub n c)) ∧ PySem.W.kitOne K (.ref D) (.type "ValueError") = some true
def excCB (K : PySem.W.Frag) (D : Addr) : Bool := He.eqO (PySem.W.findIn K (.ref D) "__getattribute__") (some (some (.builtin "BaseException.__getattribute__"))) && (He.eqO (PySem.W.findIn K (.ref D) "__getattr__") (some none) && (decide (PySem.W.subIn K (.ref D) (.type "BaseException") = some true) && (PySem.W.hasDictIn K D &&
  (He.eqO (PySem.W.findIn K (.ref D) "__class__") (some (some (.builtin "object.__class__"))) && (He.eqO (PySem.W.specialIn K (.builtin "object.__class__") "__get__") (some (some (.builtin "getset_descriptor.__get__"))) && (decide (PySem.W.takesIn K (.builtin "object.__class__") = some true) && decide (PySem.W.mroIn K D (.type "object") = some true)))))))
theorem excCB_ok {K : PySem.W.Frag} {D : Addr} (h : excCB K D = true) : ExcC K D := by
  unfold excCB at h
  simp only [Bool.and_eq_true, decide_eq_true_eq] at h
  obtain ⟨h1, h2, h3, h4, h5, h6, h7, h8⟩ := h
  exact ⟨He.eqO_ok h1, He.eqO_ok h2, h3, h4, He.eqO_ok h5, He.eqO_ok h6, h7, h8⟩
def excTabB (K : PySem.W.Frag) (ns : List Str) (sub : Str → Str → Bool) : Bool := ns.all fun n => (He.Fa.glo n).ok K && (excCB K (He.ga K n) && (decide (PySem.W.kitOne K (.ref (He.ga K n)) (.type "ValueError") = some true) &&
  ns.all fun c => decide (PySem.W.kitOne K (.ref (He.ga K n)) (.ref (He.ga K c)) = some (sub n c)) && decide (PySem.W.exmOne K (.ref (He.ga K n)) (.ref (He.ga K c)) = some (sub n c))))
theorem excTab_ok {K : PySem.W.Frag} {h : Heap} {mg : Str → Option Value} {ns : List Str} {sub : Str → Str → Bool} (X : K.In h) (G : h.Ns mainGlobals mg) (e : excTabB K ns sub = true) : ExcTab K mg ns sub := by
  have key : ∀ n ∈ ns, (He.Fa.glo n).ok K = true ∧ excCB K (He.ga K n) = true ∧ PySem.W.kitOne K (.ref (He.ga K n)) (.type "ValueError") = some true ∧
      ∀ c ∈ ns, PySem.W.kitOne K (.ref (He.ga K n)) (.ref (He.ga K c)) = some (sub n c) ∧ PySem.W.exmOne K (.ref (He.ga K n)) (.ref (He.ga K c)) = some (sub n c) := fun n hn => by
    have := List.all_eq_true.mp e n hn
    simp only [Bool.and_eq_true, decide_eq_true_eq, List.all_eq_true] at this
    exact ⟨this.1, this.2.1, this.2.2.1, this.2.2.2⟩
  refine ⟨fun n hn => ?_⟩
  obtain ⟨h1, h2, h3, h4⟩ := key n hn
  exact ⟨He.ga K n, He.glo_ok X G h1, excCB_ok h2, fun c hc => ⟨He.ga K c, He.glo_ok X G (key c hc).1, h4 c hc⟩, h3⟩
/-! ### isinstance(e, C) -/
section
variable {X : Cx} {W : WX}
theorem call_isP {a D : Addr} {oe : Obj} (hp : (a, oe) ∈ X.pn) (C : ExcC X.K D) (hz : Zc (.ref D) none oe) (hf : ∃ vs, oe.data = .fields vs) : CallR X (.builtin "isinstance") (rIsE X.K D a) := by
  rintro pins s σ H xs us Q I r ⟨c, cv, b, rfl, hcv, e, q⟩
  rcases r with _ | ⟨r1, r2⟩
  obtain ⟨u2, rfl, r3⟩ := vals1 r2
  cases r1
  obtain rfl := hcv _ r3
  obtain ⟨vs, hv⟩ := hf
  have J : PySem.W.InstAt s.heap a oe D none := by
    obtain ⟨oc, od, oda, osl⟩ := oe
    obtain ⟨h1, h2⟩ := hz
    dsimp only at h1 h2 hv
    subst h1 h2 hv
    exact ⟨(I.pin _ (List.mem_append.mpr (.inl hp))).1, rfl, rfl, trivial⟩
  exact PySem.W.kia_one (PySem.W.handS_kitx_exc C.hg C.hk C.hs C.hd C.ha C.hn C.ht C.hm) I.kIn J e (fun z => nomatch z) fun tk => ⟨.bl b, H, I.kept (t' := tk) fun _ _ z => z, rfl, q⟩
def M.isExc (ns : List Str) (sub : Str → Str → Bool) (a : Addr) (x : Exn) (i : Nat) (c : Str) : M PyData := fun e => match e[i]? with
  | some (some (.exc a' _)) => if a' = a ∧ x.name ∈ ns then .ok (.bool (sub x.name c)) e else .bad
  | _ => .bad
def M.isVal (ns : List Str) (a : Addr) (x : Exn) (i : Nat) : M PyData := fun e => match e[i]? with
  | some (some (.exc a' _)) => if a' = a ∧ x.name ∈ ns then .ok (.bool true) e else .bad
  | _ => .bad
theorem de_void {e : Expr} {f : M PyData} (h : ∀ env, f env = .bad) : DE X W e f := ⟨fun pins s σ H Q I ⟨F, P, S, env, rel, post⟩ => by rw [h env] at post; exact post.elim⟩
variable {ns : List Str} {sub : Str → Str → Bool} {a : Addr} {oe : Obj} {cls : Value} {x : Exn} {i : Nat} {y c : Str} {p pos py pc : Pos}
theorem de_isE (T : ExcTab X.K X.mg ns sub) (hp : (a, oe) ∈ X.pn) (hz : Zc cls none oe) (hf : ∃ vs, oe.data = .fields vs) (hx : X.mg x.name = some cls) (hm : X.mg "isinstance" = none) (hc : c ∈ ns := by decide +kernel) (hg : Gl X "isinstance" := by rfl) (hgc : Gl X c := by rfl)
    (hN : X.N[i]? = some y := by rfl) (hv : Vis X.env.scope y := by first | exact Or.inl rfl | exact Or.inr (Or.inl rfl) | exact Or.inr (Or.inr rfl)) (hd : (y == ("__debug__" : Str)) = false := by decide) (hcd : (y == ("__classdict__" : Str)) = false := by decide) (hdc : (c == ("__debug__" : Str)) = false := by decide)
    (h1 : starEach [.Name c pc] X.env = (false, eval (.Name c pc) X.env) :: starEach [] X.env := by rfl) (he : starEach [.Name y py, .Name c pc] X.env = (false, eval (.Name y py) X.env) :: starEach [.Name c pc] X.env := by rfl) (hpl : (backTo pos (starEach [.Name c pc] X.env)).any (·.1) = false := by rfl) :
    DE X W (.Call (.Name "isinstance" p) [.Name y py, .Name c pc] [] pos) (M.isExc ns sub a x i c) := by
  by_cases hin : x.name ∈ ns
  · obtain ⟨D, d1, d2, d3, _⟩ := T.one _ hin
    obtain ⟨C, c1, c2, _⟩ := d3 c hc
    rw [hx] at d1
    cases d1
    refine PE_mono (pe_callB (call_isP hp d2 hz hf) hg hm (by decide +kernel) (pa_cons (pe_var hN hv hd hcd) (pa_cons (pe_glob (v := .ref C) hgc c1 rfl hdc) pa_nil h1) he) (by decide) (by decide) he hpl) fun σ H Q ⟨F, P, S, env, rel, post⟩ => ?_
    unfold M.isExc at post
    split at post
    · rename_i a' x' he'
      split at post
      · rename_i q
        have hs : σ[i]? = some (some (.ref a')) := rel.ats i _ he'
        rw [q.1] at hs
        exact ⟨.ref a, hs, .ref C, .ref C, sub x.name c, rfl, fun u r => r, c2, post (.bl _) S H rel (Ex.refl S) (.bl _)⟩
      · exact post.elim
    · exact post.elim
  · refine de_void fun env => ?_
    unfold M.isExc
    split
    · rw [if_neg fun q => hin q.2]
    · rfl
theorem de_isV (T : ExcTab X.K X.mg ns sub) (hp : (a, oe) ∈ X.pn) (hz : Zc cls none oe) (hf : ∃ vs, oe.data = .fields vs) (hx : X.mg x.name = some cls) (hm : X.mg "isinstance" = none) (hmv : X.mg "ValueError" = none) (hg : Gl X "isinstance" := by rfl) (hgc : Gl X "ValueError" := by rfl)
    (hN : X.N[i]? = some y := by rfl) (hv : Vis X.env.scope y := by first | exact Or.inl rfl | exact Or.inr (Or.inl rfl) | exact Or.inr (Or.inr rfl)) (hd : (y == ("__debug__" : Str)) = false := by decide) (hcd : (y == ("__classdict__" : Str)) = false := by decide)
    (h1 : starEach [.Name "ValueError" pc] X.env = (false, eval (.Name "ValueError" pc) X.env) :: starEach [] X.env := by rfl) (he : starEach [.Name y py, .Name "ValueError" pc] X.env = (false, eval (.Name y py) X.env) :: starEach [.Name "ValueError" pc] X.env := by rfl) (hpl : (backTo pos (starEach [.Name "ValueError" pc] X.env)).any (·.1) = false := by rfl) :
    DE X W (.Call (.Name "isinstance" p) [.Name y py, .Name "ValueError" pc] [] pos) (M.isVal ns a x i) := by
  by_cases hin : x.name ∈ ns
  · obtain ⟨D, d1, d2, _, d4⟩ := T.one _ hin
    rw [hx] at d1
    cases d1
    refine PE_mono (pe_callB (call_isP hp d2 hz hf) hg hm (by decide +kernel) (pa_cons (pe_var hN hv hd hcd) (pa_cons (pe_bltn (v := .ty "ValueError") hgc hmv (by decide +kernel) rfl (by decide) (by decide)) pa_nil h1) he) (by decide) (by decide) he hpl) fun σ H Q ⟨F, P, S, env, rel, post⟩ => ?_
    unfold M.isVal at post
    split at post
    · rename_i a' x' he'
      split at post
      · rename_i q
        have hs : σ[i]? = some (some (.ref a')) := rel.ats i _ he'
        rw [q.1] at hs
        exact ⟨.ref a, hs, .ty "ValueError", .type "ValueError", true, rfl, fun u r => r, d4, post (.bl _) S H rel (Ex.refl S) (.bl _)⟩
      · exact post.elim
    · exact post.elim
  · refine de_void fun env => ?_
    unfold M.isVal
    split
    · rw [if_neg fun q => hin q.2]
    · rfl
end
end DL
namespace DL
open PySem PySem.Spec L2 PyProof.Rows LamX
/-! ### a def that is handed the exception that is handled -/
theorem _root_.L2H.RoomH.units {k : Nat} {A : Around} (r : L2H.RoomH k A) : A.units + 64 < cLine := by have := r.un; omega
theorem hu65H {A : Around} {k : Nat} (hr : L2H.RoomH k A) : A.units + 65 < cLine := by have := hr.un; omega
theorem roomG_h {k : Nat} {A : Around} (r : RoomG k A) : L2H.RoomH k A := ⟨r.room.dp, r.room.un⟩
theorem roomH_mark {k : Nat} {A : Around} {v : Option Value} (r : L2H.RoomH k A) : L2H.RoomH k (A.mark v) := ⟨r.dp, r.un⟩
structure FnQ (P : Program) (w : World) (K : PySem.W.Frag) (mg : Str → Option Value) (base : Heap) (k : Nat) (f : Addr) (fd : FuncData) (ps : List Str) (sp : Addr × Obj → Sp) : Prop where
  len : ∀ p vs H Q E, sp p vs H Q E → vs.length = ps.length
  run : ∀ (A : Around) (outer : List Env) (s : Shared) (H : Hp) (args : Args) (us : List Value) (vs : List V) (Q : VK) (p : Addr × Obj), L2H.RoomH k A → L2H.PinOk outer H s p → Env0 P w K mg base A outer s H → BindsTo s fd args (ps.zip us) → Vals vs us → sp p vs H Q E0 →
    codeAny (model P w) A (.call (.ref f) args) (CR C8.CX0 outer P w H s Q E0) s
/-- from the exception to data -/
def spQ (K : PySem.W.Frag) (mg : Str → Option Value) (g : Addr → Exn → Res PyData) (p : Addr × Obj) : Sp := fun vs H Q _ => ∃ x F S cls, vs = [.ref p.1] ∧ mg x.name = some cls ∧ Zc cls none p.2 ∧ (∃ vs, p.2.data = .fields vs) ∧ Wd K F S H ∧ RetA K mg F S Q E0 (g p.1 x)
def runQ (N : Nat) (f : Addr → Exn → M Fl) (a : Addr) (x : Exn) : Res PyData := match f a x (startE N [.exc a x]) with
  | .ok (.rt d) _ => .ok d
  | _ => .bad
abbrev cxQ (P : Program) (w : World) (K : PySem.W.Frag) (mg : Str → Option Value) (base : Heap) (N : List Str) (qual : Str) (scope : Scope) (f : Addr) (cd : Value) (A : Around) (outer : List Env) (s : Shared) (H : Hp) (p : Addr × Obj) : Cx :=
  L2H.cxH C8.CX0 P w K mg base N qual scope f cd A outer s H E0 p
section
variable {P : Program} {w : World} {K : PySem.W.Frag} {mg : Str → Option Value} {base : Heap}
theorem fnQ {x qual : Str} {st : Stmt} {dvs : List V} {kws : List (Str × V)} {f : Addr} {fd : FuncData} {N : List Str} {y : Str} {k : Nat} {b : Addr → Exn → M Fl} (Fn : FunD K x qual (defArgs st) (defBody st) (defScope st) dvs kws f fd) (Sc : FnScope N [y] (defScope st))
    (body : ∀ (cdv : Value) (A : Around) (outer : List Env) (s : Shared) (H : Hp) (p : Addr × Obj) (x : Exn) (cls : Value), L2H.RoomH k (A.deeper (envOfC qual (defScope st) s.heap.objs.size f cdv)) → mg x.name = some cls → Zc cls none p.2 → (∃ vs, p.2.data = .fields vs) →
      DSs (cxQ P w K mg base N qual (defScope st) f cdv A outer s H p) W0 (defBody st) (b p.1 x)) : FnQ P w K mg base (k + 1) f fd [y] (spQ K mg (runQ N.length b)) := by
  obtain ⟨oc, od, dV, kV, doc, pm, an, cdv, ct, osl, rfl, lk, hcd, _, _⟩ := Fn.ex
  refine ⟨fun p vs H Q E ⟨_, _, _, _, h, _⟩ => by rw [h]; rfl, fun A outer s H args us vs Q p hr hpin e0 hb r hsp => ?_⟩
  obtain ⟨ex, F, S, cls, rfl, hx, hz, hfl, wd, q⟩ := hsp
  have up : ∀ b o, base.get? b = some o → s.heap.get? b = some o := fun b o e => (e0.bs b o e).1
  have KX : K.In s.heap := e0.mod.kin.keeps up
  have kinds : ∀ z ∈ [y].zip us, (defScope st).names.lookup z.1 = some .local ∨ ((defScope st).names.lookup z.1 = some .cell ∧ ((cellsFrom (s.heap.objs.size + 1) (defScope st).names []).lookup z.1).isSome = true) := by
    rintro ⟨n, v⟩ hy
    exact (Sc.par n (List.of_mem_zip hy).1).imp id fun q => ⟨q, PySem.W.cellsFrom_some _ _ _ (.inl q)⟩
  refine codeAny_call_function hr.depth (KX _ _ lk) rfl Sc.co Sc.gen rfl (PySem.W.codeRec_of KX hcd) (hb _ _ _ _ (wpAny_newFunctionEnv_cells Sc.kind kinds fun env he s1 z => ?_))
  subst he
  refine ⟨(e0.mod.nolimit.keeps up).keeps z.toInCall.keep, codeAny_func ?_⟩
  have J := L2H.inv_startH (CX := C8.CX0) (E := E0) (N := N) (ps := [y]) (vs := [.ref p.1]) Sc hpin e0 rfl r z
  have rel : RelE K mg F [] S H (L2.start N [.ref p.1]) (startE N.length [.exc p.1 ex]) := relE_start wd rfl (pre_le Sc) (fun i s v e1 e2 => by
      cases i with
      | zero => simp at e1 e2; subst e1 e2; rfl
      | succ j => simp at e1) (fun i j _ _ _ _ e1 _ => by
      cases i with
      | zero => simp at e1
      | succ j => simp at e1)
  have hd := (body cdv A outer s H p ex cls (hr.deeper _) hx hz hfl).run [] s1 (L2.start N [.ref p.1]) H { nx := fun _ H' => False, rt := Q } J ⟨F, [], S, _, rel, ?_⟩
  · refine wpAny_mono hd ?_ fun e s' hs => hs
    rintro (_ | _ | _ | u) s' hs
    · obtain ⟨_, _, _, q⟩ := hs; exact q.elim
    · obtain ⟨_, _, _, q⟩ := hs; exact q.elim
    · obtain ⟨_, _, _, q⟩ := hs; exact q.elim
    · obtain ⟨v, σ', H', J', rv, q⟩ := hs
      exact ⟨v, H', J'.os, J'.bare, J'.base, J'.hok, rv, q⟩
  · unfold runQ at q
    cases hbv : b p.1 ex (startE N.length [.exc p.1 ex]) with
    | bad => rw [hbv] at q; exact q.elim
    | exc x e => rw [hbv] at q; exact q.elim
    | ok fl e =>
      rw [hbv] at q
      cases fl with
      | rt d => exact fun v σ' S' H' r' ex rp => q v S' H' ex r'.toWd rp
      | nx => exact q.elim
      | bk => exact q.elim
      | ct => exact q.elim
      | rl d => exact q.elim
end
structure FnIsQ (P : Program) (w : World) (K : PySem.W.Frag) (mg : Str → Option Value) (base : Heap) (x : Str) (k : Nat) (g : Addr → Exn → Res PyData) : Prop where
  ex : ∃ f fd y, mg x = some (.ref f) ∧ PySem.W.keepIn K (.ref f) = true ∧ Binds K fd [y] [] ∧ FnQ P w K mg base k f fd [y] (spQ K mg g)
section
variable {X : Cx} {W : WX} {a : Addr} {oe : Obj} {cls : Value} {ex : Exn} {i : Nat} {x y : Str} {k : Nat} {p pos py : Pos} {g : Addr → Exn → Res PyData}
def M.callQ (a : Addr) (x : Exn) (i : Nat) (g : Addr → Exn → Res PyData) : M PyData := fun e => match e[i]? with
  | some (some (.exc a' _)) => if a' = a then (match g a x with
    | .ok d => .ok d e
    | _ => .bad) else .bad
  | _ => .bad
theorem de_callQ (G : FnIsQ X.prog X.w X.K X.mg X.base x k g) (hr : L2H.RoomH k X.A) (hp : (a, oe) ∈ X.pn) (hz : Zc cls none oe) (hf : ∃ vs, oe.data = .fields vs) (hx : X.mg ex.name = some cls) (hg : Gl X x := by rfl)
    (hN : X.N[i]? = some y := by rfl) (hv : Vis X.env.scope y := by first | exact Or.inl rfl | exact Or.inr (Or.inl rfl) | exact Or.inr (Or.inr rfl)) (hd : (y == ("__debug__" : Str)) = false := by decide) (hcd : (y == ("__classdict__" : Str)) = false := by decide) (hdb : (x == ("__debug__" : Str)) = false := by decide)
    (he : starEach [.Name y py] X.env = (false, eval (.Name y py) X.env) :: starEach [] X.env := by rfl) (hpl : (backTo pos (starEach [] X.env)).any (·.1) = false := by rfl) :
    DE X W (.Call (.Name x p) [.Name y py] [] pos) (M.callQ a ex i g) := by
  obtain ⟨f, fd, y', hm, hk, hb, F⟩ := G.ex
  constructor
  rintro pins s σ H Q I ⟨F0, P0, S, env, rel, post⟩
  unfold M.callQ at post
  split at post
  · rename_i a' x' he'
    split at post
    · rename_i qa
      split at post
      · rename_i dd hgo
        have hs : σ[i]? = some (some (.ref a')) := rel.ats i _ he'
        rw [qa] at hs
        refine wpAny_Call_Name_kw (ld_glob I hg hm ?_ hdb)
        refine PySem.W.callWith_K (h₀ := X.base) I.ok.mod.kin hk (thn ((pa_cons (pe_var (pos := py) hN hv hd hcd) pa_nil he).run pos pins s σ H (fun vs H1 => vs = [.ref a] ∧ H1 = H) I ⟨.ref a, hs, rfl, rfl⟩) ?_) he hpl
        rintro us s1 ⟨vs, H1, I1, r, rfl, rfl⟩
        refine ⟨I1.kIn, ?_⟩
        have P1 := I1.pin (a, oe) (List.mem_append.mpr (.inl hp))
        have hpin : L2H.PinOk X.stack H1 s1 (a, oe) := ⟨P1.1, P1.2.1, fun hm => (List.mem_cons.mp (I1.stkSub a hm)).elim P1.2.2.1 P1.2.2.2.1, P1.2.2.2.2⟩
        have hl : us.length = [y'].length := by rw [← r.length]; rfl
        have b := hb s1 us I1.kIn (by rw [List.append_nil]; exact hl)
        rw [List.append_nil] at b
        refine wpAny_call (codeAny_mono (F.run X.A X.stack s1 H1 ⟨us, []⟩ us [.ref a] Q (a, oe) hr hpin I1.env0 b r ?_) ?_)
        · refine ⟨ex, rest H1 S, S, cls, rfl, hx, hz, hf, rest_wd rel.sh rel.tb rel.ns, ?_⟩
          show RetA _ _ _ _ _ _ (g a ex)
          rw [hgo]
          exact fun v S2 H2 e2 w2 rp => post v S2 H2 (rel.grow (grow_call rel.sh rel.tb e2 w2)) e2 rp
        · rintro (e | (_ | _ | _ | u)) s' hq
          · exact (show False from hq).elim
          · exact hq.elim
          · exact hq.elim
          · exact hq.elim
          · exact I1.after hq
      · exact post.elim
    · exact post.elim
  · exact post.elim
end
/-! ### the suite -/
def runH (N i : Nat) (f : Addr → Exn → M Fl) (v : V) (a : Addr) (x : Exn) : Res PyData := match f a x ((startE N [.raw v]).set i (some (.exc a x))) with
  | .ok (.rt d) _ => .ok d
  | _ => .bad
def HdE (K : PySem.W.Frag) (mg : Str → Option Value) (h : Exn → Res PyData) : Value → Option Addr → VK → Hp → Prop := fun cls d Q H' => ∃ x F S, mg x.name = some cls ∧ d = none ∧ Wd K F S H' ∧ RetA K mg F S Q E0 (h x)
abbrev cxS (P : Program) (w : World) (K : PySem.W.Frag) (mg : Str → Option Value) (base : Heap) (A : Around) (stack : List Env) (Ng : List Str) (x : Str) (sg : Scope) (g : Addr) (cdv : Value) (s : Shared) (H : Hp) (a : Addr) (oe : Obj) (pn : List (Addr × Obj)) : Cx :=
  ((cxOf C8.CX0 P w K mg base Ng x sg g cdv A stack s H C8.E0).nox).suite a ((a, oe) :: pn)
section
variable {P : Program} {w : World} {K : PySem.W.Frag} {mg : Str → Option Value} {base : Heap} {A : Around} {stack : List Env}
theorem suite_hd {Ng : List Str} {x : Str} {sg : Scope} {g : Addr} {suite : List Stmt} {i : Nat} {b : Addr → Exn → M Fl} {h : Exn → Res PyData} (hN : 0 < Ng.length) (hi : i < Ng.length) (hi0 : i ≠ 0) (ind : ∀ v a x, runH Ng.length i b v a x = h x)
    (body : ∀ (cdv : Value) (s : Shared) (H : Hp) (a : Addr) (oe : Obj) (cls : Value) (pn : List (Addr × Obj)) (ex : Exn), mg ex.name = some cls → Zc cls none oe → (∃ vs, oe.data = .fields vs) → DSs (cxS P w K mg base A stack Ng x sg g cdv s H a oe pn) W0 suite (b a ex)) :
    ∀ (cdv : Value) (s : Shared) (H : Hp) (a : Addr) (oe : Obj) (cls : Value) (d : Option Addr) (pn : List (Addr × Obj)), Zc cls d oe → (∃ vs, oe.data = .fields vs) →
      PSs (cxS P w K mg base A stack Ng x sg g cdv s H a oe pn) suite (fun D σ H' => (∃ v, σ = (L2.start Ng [v]).set i (some (.ref a))) ∧ HdE K mg h cls d D.rt H') := by
  intro cdv s H a oe cls d pn hz hf
  constructor
  rintro pins s1 σ H1 D I ⟨⟨v, rfl⟩, ex, F, S, hx, rfl, wd, q⟩
  have rel0 : RelE K mg F [] S H1 (L2.start Ng [v]) (startE Ng.length [.raw v]) := relE_start wd rfl hN (fun j s w e1 e2 => by
      cases j with
      | zero => simp at e1 e2; subst e1 e2; rfl
      | succ j => simp at e1) (fun i j _ _ _ _ e1 _ => by
      cases i with
      | zero => simp at e1
      | succ j => simp at e1)
  have rel := rel0.setS (i := i) (v := .ref a) (sv := .exc a ex) (fun _ _ z => nomatch z) fun hl => List.getElem?_set_self (by rw [rel0.len]; exact hl)
  refine (body cdv s H a oe cls pn ex hx hz hf).run pins s1 _ H1 D I ⟨F, [], S, _, rel, ?_⟩
  have e := ind v a ex
  unfold runH at e
  rw [← e] at q
  cases hbv : b a ex ((startE Ng.length [.raw v]).set i (some (.exc a ex))) with
  | bad => rw [hbv] at q; exact q.elim
  | exc x e => rw [hbv] at q; exact q.elim
  | ok fl e =>
    rw [hbv] at q
    cases fl with
    | rt d => exact fun v σ' S' H' r' ex rp => q v S' H' ex r'.toWd rp
    | nx => exact q.elim
    | bk => exact q.elim
    | ct => exact q.elim
    | rl d => exact q.elim
end
section
variable {X : Cx}
/-! ### x(lambda: e) -/
def M.said (ns : List Str) (sub : Str → Str → Bool) (en : Str) (f : M PyData) (h : Exn → Res PyData) : M PyData := fun e => match f e with
  | .ok d e' => .ok d e'
  | .exc x e' => if x.name ∈ ns ∧ sub x.name en = true ∧ x.field.isNone = true then (match h x with
    | .ok d => .ok d e'
    | _ => .bad) else .bad
  | .bad => .bad
theorem tD_w {W W' : WX} {f : M PyData} {σ : L2.St} {H : Hp} {Q : VK} (m : ∀ cls d σ H, W cls d σ H → W' cls d σ H) (h : tD X W f σ H Q) : tD X W' f σ H Q := by
  obtain ⟨F, P, S, env, rel, post⟩ := h
  refine ⟨F, P, S, env, rel, ?_⟩
  cases hf : f env with
  | ok d e => rw [hf] at post; exact post
  | exc x e => rw [hf] at post; exact fun cls d S' H' r ex rx => m _ _ _ _ (post cls d S' H' r ex rx)
  | bad => rw [hf] at post; exact post
/-- a def that calls what it got, in a try -/
structure Said (P : Program) (w : World) (K : PySem.W.Frag) (mg : Str → Option Value) (base : Heap) (A : Around) (stack : List Env) (x en : Str) (h : Exn → Res PyData) : Prop where
  ex : ∃ (a n : Str) (g CS : Addr) (i : Nat) (pg : Arguments) (sg : Scope) (fd : FuncData) (Ng : List Str) (b₀ : Stmt) (suite : List Stmt) (p1 p2 p3 p4 p7 p8 : Pos), mg x = some (.ref g) ∧ PySem.W.keepIn K (.ref g) = true ∧
    FunD K x x pg [.Try [.Return (some (.Call (.Name a p1) [] [] p2)) p3] [.ExceptHandler (some (.Name en p4)) (some n) (b₀ :: suite) p7] [] [] p8] sg [] [] g fd ∧ L2.Binds K fd [a] [] ∧ FnScope Ng [a] sg ∧ Ng[0]? = some a ∧ Vis sg a ∧
    Ng[i]? = some n ∧ sg.names.lookup n = some .local ∧ i ≠ 0 ∧ sg.names.lookup en = some .globalImplicit ∧ mg en = some (.ref CS) ∧ (en == ("__debug__" : Str)) = false ∧ (a == ("__debug__" : Str)) = false ∧ (a == ("__classdict__" : Str)) = false ∧
    ∀ (cdv : Value) (s : Shared) (H : Hp) (a : Addr) (oe : Obj) (cls : Value) (d : Option Addr) (pn : List (Addr × Obj)), Zc cls d oe → (∃ vs, oe.data = .fields vs) →
      PSs (((cxOf C8.CX0 P w K mg base Ng x sg g cdv A stack s H C8.E0).nox).suite a ((a, oe) :: pn)) (b₀ :: suite) (fun D σ H' => (∃ v, σ = (L2.start Ng [v]).set i (some (.ref a))) ∧ HdE K mg h cls d D.rt H')
/-- what is known of the maker's own code object -/
structure LamAt (K : PySem.W.Frag) (mg : Str → Option Value) (base : Heap) (cd : Value) (q : Str) : Prop where
  ex : ∃ c P, TabB base mg c P ∧ cd = .ref c ∧ (P, q) ∈ tbK K ∧ ∀ p ∈ tbK K, p.1 = P → p.2 = q
/-- the code object of the def at f -/
def LamOk (K : PySem.W.Frag) (mg : Str → Option Value) (base : Heap) (ls : List Str) : Prop := ∀ x ∈ ls, ∀ f cdv, mg x = some (.ref f) → CdOk K f cdv → LamAt K mg base cdv (x ++ ".<locals>." ++ "<lambda>")
def lamB (K : PySem.W.Frag) (ls : List Str) : Bool := (ls.all fun x => lamDefs.contains x && (tbOf K x).isSome) && ((tbK K).all fun p => (tbK K).all fun p' => decide (p.1 = p'.1 → p'.2 = p.2))
theorem lamOk_by {K : PySem.W.Frag} {mg : Str → Option Value} {base : Heap} {ls : List Str} (X : K.In base) (G : base.Ns mainGlobals mg) (tb : TbB K mg base) (e : lamB K ls = true) : LamOk K mg base ls := by
  intro x hx f cdv hm ⟨o, fd, lk, hd, hc⟩
  unfold lamB at e
  simp only [Bool.and_eq_true, List.all_eq_true, decide_eq_true_eq] at e
  obtain ⟨h1, h2⟩ := e.1 x hx
  obtain ⟨p, hp⟩ := Option.isSome_iff_exists.mp h2
  have hmem : p ∈ tbK K := List.mem_filterMap.mpr ⟨x, by simpa using h1, hp⟩
  unfold tbOf at hp
  split at hp
  · rename_i a ha
    have := PySem.W.mg_of X G ha
    rw [hm] at this
    cases this
    rw [lk] at hp
    dsimp only at hp
    rw [hd] at hp
    dsimp only at hp
    obtain ⟨P, hP, rfl⟩ := Option.map_eq_some_iff.mp hp
    rw [hc] at hP
    cases cdv with
    | ref c => exact ⟨c, P, ⟨tabAt_code hP X, (tb _ hmem).1, (tb _ hmem).2⟩, rfl, hmem, fun p' hp' q => e.2 _ hmem p' hp' q.symm⟩
    | _ => cases hP
  · cases hp
theorem lam_room {A B : Around} {k : Nat} {e : Env} (hr : RoomG (k + 2) A) (hA : ∃ env, B = A.deeper env) : RoomG k (B.deeper e) := by
  obtain ⟨env, rfl⟩ := hA
  exact (hr.deeper env).deeper e
theorem cx_lam {A : Around} {outer : List Env} {s : Shared} {H : Hp} {E : XK} {scope : Scope} {f c' : Addr} : Ctx (lamCx X A outer s H E scope f c') (WD E) := ⟨takes_of rfl rfl rfl rfl, passes_of rfl⟩
theorem de_said {sc : Scope} {W : WX} {x en : Str} {ns : List Str} {sub : Str → Str → Bool} {h : Exn → Res PyData} {params : Arguments} {body : Expr} {scope : Scope} {f : M PyData} {p lpos pos : Pos} (T : ExcTab X.K X.mg ns sub) (Sd : Said X.prog X.w X.K X.mg X.base X.A X.stack x en h) (L : LamAt X.K X.mg X.base X.env.code (X.env.qual ++ "<lambda>"))
    (hr : Room 2 X.A) (hl : ∀ (A : Around) (E : XK) (outer : List Env) (s : Shared) (H : Hp) (fa c' : Addr), (∃ env, A = X.A.deeper env) → DE (lamCx X A outer s H E scope fa c') (WD E) body f) (hen : en ∈ ns := by decide +kernel) (hsc : X.env.scope = sc := by rfl) (hL : lamSB sc scope = true := by decide +kernel) (hg : Gl X x := by rfl)
    (hdef : defaultsOf params X.env = ([], []) := by rfl) (hbind : ∀ (q : Str) (cl : List (Str × Addr)) (pm cv ctv : Value), bindArgs (PySem.W.kla_fn "<lambda>" q params body scope cl pm cv ctv) ⟨[], []⟩ = pure [] := by intros; rfl) (hdb : (x == ("__debug__" : Str)) = false := by decide) :
    DE X W (.Call (.Name x p) [.Lambda params body scope lpos] [] pos) (M.said ns sub en f h) := by
  obtain ⟨a, n, g, CS, i, pg, sg, fd, Ng, b₀, suite, p1, p2, p3, p4, p7, p8, hm, hk, Fn, hb, Sg, hNg, hva, hNi, hln, hi0, hge, hme, hde, hda, hcd, hsu⟩ := Sd.ex
  obtain ⟨c, P, TB, hc, hmT, hu⟩ := L.ex
  refine PE_mono (pe_said (hd := HdE X.K X.mg h) (t := fun E => tD X (WD E) f) hg hm hk Fn hb Sg hNg hva hNi hln hi0 hge hme hde hsu TB hc hmT hu hr (lamS_by (by rw [hsc]; exact hL)) hdef hbind (fun A E outer s H fa c' hA => hl A E outer s H fa c' hA) (fun E E' σ H Q m => tD_w fun cls d σ H => m cls d H) hdb hda hcd) ?_
  rintro σ H Q ⟨F, P, S, env, rel, post⟩
  refine ⟨rel.tb, fun H1 eN tb1 => ⟨F, P, S, env, rel.tabs eN tb1, ?_⟩⟩
  unfold M.said at post
  cases hf : f env with
  | ok d e => rw [hf] at post; exact post
  | bad => rw [hf] at post; exact post
  | exc ex e =>
    rw [hf] at post
    dsimp only at post
    split at post
    · rename_i hin
      split at post
      · rename_i dd hh
        intro cls d S' H' r ex' rx
        obtain ⟨D, d1, d2, d3, d4⟩ := T.one _ hin.1
        obtain ⟨C, c1, c2, c3⟩ := d3 en hen
        rw [hme] at c1
        cases c1
        have hcl : cls = .ref D := by have := rx.1; rw [d1] at this; exact (Option.some.inj this).symm
        subst hcl
        rw [hin.2.1] at c3
        refine ⟨true, c3, fun _ => ⟨ex, rest H' S', S', d1, ?_, rest_wd r.sh r.tb r.ns, ?_⟩, fun z => nomatch z⟩
        · have h2 := rx.2
          have hfn : ex.field = none := by have := hin.2.2; cases hq : ex.field with
            | none => rfl
            | some _ => rw [hq] at this; cases this
          rw [hfn] at h2
          exact h2
        · rw [hh]
          exact fun v S2 H2 e2 w2 rp => post v S2 H2 (r.grow (grow_call r.sh r.tb e2 w2)) (ex'.trans e2) rp
      · exact post.elim
    · exact post.elim
end
end DL
namespace DL
open PySem L2
/-- a default that is () -/
def emptyTupB (K : PySem.W.Frag) (a : Addr) : Bool := match K.lookup a with
  | some ⟨.type "tuple", none, .seq its _, _⟩ => its.isEmpty
  | _ => false
theorem rp_empty {K : PySem.W.Frag} {a : Addr} (h : emptyTupB K a = true) (S : Hp) : Rp K S (.ref a) (.tuple []) := by
  unfold emptyTupB at h
  split at h
  · rename_i its n sl hl
    have : its = #[] := by simpa using h
    subst this
    exact .tup (.inr ⟨_, #[], n, hl, rfl, rfl, by decide, .nil, rfl⟩) .nil
  · cases h
section
variable {X : Cx} {W : WX}
/-- x, y = [], [] -/
theorem ds_parEE {i j : Nat} {x y : Str} {px py pt pos pl ql : Pos} {kt k2 pt2} (hc : X.calm = true) (hN : X.N.Nodup) (hi : X.N[i]? = some x := by rfl) (hj : X.N[j]? = some y := by rfl) (hij : i ≠ j := by decide)
    (hx : X.env.scope.names.lookup x = some .local := by rfl) (hy : X.env.scope.names.lookup y = some .local := by rfl)
    (hst : starEach [.List [] ql, .List [] pl] X.env = (false, eval (.List [] ql) X.env) :: starEach [.List [] pl] X.env := by rfl) (hst2 : starEach [.List [] pl] X.env = (false, eval (.List [] pl) X.env) :: starEach [] X.env := by rfl)
    (hw : swappedStores [.Tuple [.Name x px, .Name y py] kt pt] (.Tuple [.List [] ql, .List [] pl] k2 pt2) X.env = pure (some [x, y]) := by rfl)
    (hs : swapsWithSole [.Tuple [.Name x px, .Name y py] kt pt] (.Tuple [.List [] ql, .List [] pl] k2 pt2) pos.line X.env = pure false := by rfl) :
    DS X W (.Assign [.Tuple [.Name x px, .Name y py] kt pt] (.Tuple [.List [] ql, .List [] pl] k2 pt2) pos) (M.setL i [] >>= fun _ => M.setL j [] >>= fun _ => pure .nx) := by
  refine PS_mono (ps_par hc hN hi hj hij hx hy (pa_cons (pe_lst pa_nil) (pa_cons (pe_lst pa_nil) pa_nil hst2) hst) hw hs) fun D σ H ⟨F, P, S, env, rel, post⟩ => ?_
  refine ⟨Nat.zero_le _, fun l hl => ⟨Nat.zero_le _, fun p hp => ⟨.ref l, .ref p, rfl, ?_⟩⟩⟩
  exact post _ S _ ((rel.setMt (o := .lst []) (m := .lst []) hl .nil).setMt (m := .lst []) hp .nil) (Ex.refl S)
/-- return x: a list of one's own is handed back -/
def M.retL (i : Nat) : M Fl := fun e => match e[i]? with
  | some (some (.mt false (.lst ds))) => .ok (.rl ds) (wipeE e [i])
  | _ => .bad
theorem ds_retM {i : Nat} {x : Str} {pos xp : Pos} (hN : X.N[i]? = some x := by rfl) (hv : Vis X.env.scope x := by first | exact Or.inl rfl | exact Or.inr (Or.inl rfl) | exact Or.inr (Or.inr rfl)) (hd : (x == ("__debug__" : Str)) = false := by decide)
    (hcd : (x == ("__classdict__" : Str)) = false := by decide) : DS X W (.Return (some (.Name x xp)) pos) (M.retL i) := by
  refine PS_mono (ps_ret (pe_var hN hv hd hcd)) fun D σ H ⟨F, P, S, env, rel, post⟩ => ?_
  unfold M.retL at post
  split at post
  · rename_i ds he
    obtain ⟨p, xs, h1, h2, h3, h4, h5, _⟩ := rel.lis he
    refine ⟨.ref p, h1, post p xs σ S H (rel.wipe (vs := [i]) (fun _ _ => rfl) rfl) (Ex.refl S) h2 h3 h4 (fun j b es q z => ?_) h5⟩
    by_cases hj : j ∈ [i]
    · exact absurd q (wipeE_in hj)
    · rw [wipeE_out hj] at q
      exact hj (by rw [rel.uq i j p _ _ _ _ he q h1 z]; exact List.mem_singleton.mpr rfl)
  · exact post.elim
/-- a def that hands back a new list, as data -/
def M.ofResL (r : Res (List PyData)) : M PyData := fun e => match r with
  | .ok ds => .ok (.list ds) e
  | .exc x => .exc x e
  | .bad => .bad
variable {x : Str} {k : Nat} {p pos : Pos} {e : Expr} {es : List Expr}
theorem de_callL {g : List PyData → Res (List PyData)} {fa : M (List PyData)} (G : FnIs X.prog X.w X.K X.mg X.base x k (spL X.K X.mg g)) (hr : RoomG k X.A) (cx : Ctx X W) (ha : DA X W (e :: es) fa) (hg : Gl X x := by rfl)
    (hdb : (x == ("__debug__" : Str)) = false := by decide) (he : starEach (e :: es) X.env = (false, eval e X.env) :: starEach es X.env := by rfl) (hpl : (backTo pos (starEach es X.env)).any (·.1) = false := by rfl) :
    DE X W (.Call (.Name x p) (e :: es) [] pos) (fa >>= fun ds => M.ofResL (g ds)) := by
  obtain ⟨f, fd, ps, hm, hk, hb, F⟩ := G.ex
  refine PE_mono (pe_callG F hr hg hm hk hb .nil (fun σ => passAt cx.tk σ) ha hdb he hpl) fun σ H Q ⟨F, P, S, env, rel, post⟩ => ?_
  refine ⟨F, P, S, env, rel, Post.step post fun ds e q vs S1 H1 rel1 ex1 rp1 => ?_⟩
  refine ⟨rest H1 S1, S1, ds, rest_wd rel1.sh rel1.tb rel1.ns, by rw [List.append_nil]; exact rp1, ?_⟩
  unfold M.ofResL at q
  cases hgo : g ds with
  | ok d =>
    rw [hgo] at q
    intro a xs S2 H2 a1 a2 a5 a6 a7 a8
    have gr := grow_call rel1.sh rel1.tb a1 a2
    have fresh : H1 a = none := by
      have : S1 a = none := a1.back a6
      rcases rest_no this a7 with z | ⟨ps, z⟩
      · exact z
      · obtain ⟨ps', z'⟩ := rel1.tb.still a2.tb z
        rw [a5] at z'; cases z'
    have ex : Ex S2 (upd S2 a (.lst xs)) := Ex.new a6
    exact q (.ref a) _ H2 ((rel1.grow gr).keep a5 (rel1.fh.back fresh) (rel1.apart fresh) a6) ((ex1.trans a1).trans ex) (.lst upd_same (a8.mono ex))
  | exc x =>
    rw [hgo] at q
    intro cls dd S2 H2 a w rx
    exact q cls dd S2 H2 (rel1.grow (grow_call rel1.sh rel1.tb a w)) (ex1.trans a) rx
  | bad => rw [hgo] at q; exact q.elim
end
end DL
/-! what a handler tells doesn't hang on the exception's address -/
namespace DL
open PySem L2
inductive Sr (a : Addr) : Option (Option Sv) → Option (Option Sv) → Prop
  | exc (x : Exn) : Sr a (some (some (.exc a x))) (some (some (.exc 0 x)))
  | raw (v v' : V) : Sr a (some (some (.raw v))) (some (some (.raw v')))
  | same (s : Option (Option Sv)) (h1 : ∀ b y, s ≠ some (some (.exc b y))) : Sr a s s
def Er (a : Addr) (e e' : Sl) : Prop := e.length = e'.length ∧ ∀ i : Nat, Sr a e[i]? e'[i]?
def Ur {α : Type} (a : Addr) : Out α → Out α → Prop
  | .ok v e, .ok v' e' => v = v' ∧ Er a e e'
  | .exc x e, .exc x' e' => x = x' ∧ Er a e e'
  | .bad, .bad => True
  | _, _ => False
def Rr {α : Type} (a : Addr) (f g : M α) : Prop := ∀ e e', Er a e e' → Ur a (f e) (g e')
section
variable {a : Addr} {α β : Type}
theorem Er.set {e e' : Sl} (h : Er a e e') (i : Nat) {s : Sv} (hs : ∀ b y, s ≠ .exc b y) : Er a (e.set i (some s)) (e'.set i (some s)) := by
  refine ⟨by simp [h.1], fun j => ?_⟩
  by_cases q : i = j
  · subst q
    by_cases hl : i < e.length
    · rw [List.getElem?_set_self hl, List.getElem?_set_self (by rw [← h.1]; exact hl)]
      exact .same _ fun b y z => hs b y (Option.some.inj (Option.some.inj z))
    · rw [List.getElem?_eq_none (by simpa using hl), List.getElem?_eq_none (by simpa [← h.1] using hl)]
      exact .same _ fun b y z => nomatch z
  · rw [List.getElem?_set_ne q, List.getElem?_set_ne q]; exact h.2 j
theorem Rr.pure (v : α) : Rr a (Pure.pure v : M α) (Pure.pure v) := fun e e' h => ⟨rfl, h⟩
theorem Rr.bad : Rr a (M.bad : M α) M.bad := fun e e' h => trivial
theorem Rr.bind {f f' : M α} {k k' : α → M β} (h : Rr a f f') (hk : ∀ v, Rr a (k v) (k' v)) : Rr a (f >>= k) (f' >>= k') := fun e e' h0 => by
  have := h e e' h0
  rw [bind_run, bind_run]
  cases q : f e with
  | ok v e1 => cases q' : f' e' with
    | ok v' e1' => rw [q, q'] at this; obtain ⟨rfl, h1⟩ := this; exact hk v _ _ h1
    | _ => rw [q, q'] at this; exact this.elim
  | exc x e1 => cases q' : f' e' with
    | exc x' e1' => rw [q, q'] at this; exact this
    | _ => rw [q, q'] at this; exact this.elim
  | bad => cases q' : f' e' with
    | bad => trivial
    | _ => rw [q, q'] at this; exact this.elim
theorem Rr.lift (o : Option α) : Rr a (M.lift o) (M.lift o) := fun e e' h => by
  cases o with
  | none => trivial
  | some v => exact ⟨rfl, h⟩
theorem Rr.get (i : Nat) : Rr a (M.get i) (M.get i) := fun e e' h => by
  have := h.2 i
  unfold M.get
  cases q : e[i]? with
  | none =>
    cases q' : e'[i]? with
    | none => trivial
    | some s => rw [q, q'] at this; cases this
  | some o =>
    rw [q] at this
    cases q' : e'[i]? with
    | none => rw [q'] at this; cases this
    | some o' =>
      rw [q'] at this
      cases this with
      | exc x => trivial
      | raw v v' => trivial
      | same _ hn =>
        cases o with
        | none => trivial
        | some s =>
          cases s with
          | dat d => exact ⟨rfl, h⟩
          | mt b m =>
            cases b with
            | true => trivial
            | false => cases m with
              | lst ds => exact ⟨rfl, h.set i fun b y z => nomatch z⟩
              | dT kvs => trivial
          | _ => trivial
theorem Rr.setD (i : Nat) (d : PyData) : Rr a (M.setD i d) (M.setD i d) := fun e e' h => ⟨rfl, h.set i fun b y z => nomatch z⟩
theorem Rr.ite {f f' g g' : M α} (c : Bool) (h1 : Rr a f f') (h2 : Rr a g g') : Rr a (if c = true then f else g) (if c = true then f' else g') := by
  cases c with
  | true => exact h1
  | false => exact h2
theorem Rr.seq {f f' g g' : M Fl} (h1 : Rr a f f') (h2 : Rr a g g') : Rr a (mSeq f g) (mSeq f' g') := by
  unfold mSeq
  refine Rr.bind h1 fun v => ?_
  cases v with
  | nx => exact h2
  | _ => exact Rr.pure _
theorem Rr.or {f f' g g' : M Bool} (h1 : Rr a f f') (h2 : Rr a g g') : Rr a (mOr f g) (mOr f' g') := Rr.bind h1 fun v => Rr.ite v (Rr.pure _) h2
theorem Rr.and {f f' g g' : M Bool} (h1 : Rr a f f') (h2 : Rr a g g') : Rr a (mAnd f g) (mAnd f' g') := Rr.bind h1 fun v => Rr.ite v h2 (Rr.pure _)
theorem Rr.isExc (ns : List Str) (sub : Str → Str → Bool) (x : Exn) (i : Nat) (c : Str) : Rr a (M.isExc ns sub a x i c) (M.isExc ns sub 0 x i c) := fun e e' h => by
  have := h.2 i
  unfold M.isExc
  cases q : e[i]? with
  | none =>
    cases q' : e'[i]? with
    | none => trivial
    | some s => rw [q, q'] at this; cases this
  | some o =>
    rw [q] at this
    cases q' : e'[i]? with
    | none => rw [q'] at this; cases this
    | some o' =>
      rw [q'] at this
      cases this with
      | exc y =>
        dsimp only
        by_cases hn : x.name ∈ ns
        · rw [if_pos ⟨rfl, hn⟩, if_pos ⟨rfl, hn⟩]; exact ⟨rfl, h⟩
        · rw [if_neg fun z => hn z.2, if_neg fun z => hn z.2]; trivial
      | raw v v' => trivial
      | same _ hn =>
        cases o with
        | none => trivial
        | some s =>
          cases s with
          | exc b y => exact (hn b y rfl).elim
          | _ => trivial
theorem Rr.isVal (ns : List Str) (x : Exn) (i : Nat) : Rr a (M.isVal ns a x i) (M.isVal ns 0 x i) := fun e e' h => by
  have := h.2 i
  unfold M.isVal
  cases q : e[i]? with
  | none =>
    cases q' : e'[i]? with
    | none => trivial
    | some s => rw [q, q'] at this; cases this
  | some o =>
    rw [q] at this
    cases q' : e'[i]? with
    | none => rw [q'] at this; cases this
    | some o' =>
      rw [q'] at this
      cases this with
      | exc y =>
        dsimp only
        by_cases hn : x.name ∈ ns
        · rw [if_pos ⟨rfl, hn⟩, if_pos ⟨rfl, hn⟩]; exact ⟨rfl, h⟩
        · rw [if_neg fun z => hn z.2, if_neg fun z => hn z.2]; trivial
      | raw v v' => trivial
      | same _ hn =>
        cases o with
        | none => trivial
        | some s =>
          cases s with
          | exc b y => exact (hn b y rfl).elim
          | _ => trivial
theorem Rr.callQ {g : Addr → Exn → Res PyData} (hg : ∀ a x, g a x = g 0 x) (x : Exn) (i : Nat) : Rr a (M.callQ a x i g) (M.callQ 0 x i g) := fun e e' h => by
  have := h.2 i
  unfold M.callQ
  cases q : e[i]? with
  | none =>
    cases q' : e'[i]? with
    | none => trivial
    | some s => rw [q, q'] at this; cases this
  | some o =>
    rw [q] at this
    cases q' : e'[i]? with
    | none => rw [q'] at this; cases this
    | some o' =>
      rw [q'] at this
      cases this with
      | exc y =>
        dsimp only
        rw [if_pos rfl, if_pos rfl, hg a x]
        cases g 0 x with
        | ok d => exact ⟨rfl, h⟩
        | _ => trivial
      | raw v v' => trivial
      | same _ hn =>
        cases o with
        | none => trivial
        | some s =>
          cases s with
          | exc b y => exact (hn b y rfl).elim
          | _ => trivial
end
theorem indQ {N : Nat} {f : Addr → Exn → M Fl} (h : ∀ a x, Rr a (f a x) (f 0 x)) (a : Addr) (x : Exn) : runQ N f a x = runQ N f 0 x := by
  have er : Er a (startE N [.exc a x]) (startE N [.exc 0 x]) := by
    refine ⟨by simp [startE], fun i => ?_⟩
    cases i with
    | zero => exact .exc x
    | succ j =>
      show Sr a (List.replicate (N - 1) none)[j]? (List.replicate (N - 1) none)[j]?
      refine .same _ fun b y z => ?_
      rw [List.getElem?_replicate] at z
      split at z <;> cases z
  have := h a x _ _ er
  unfold runQ
  cases q : f a x (startE N [.exc a x]) with
  | ok v e1 => cases q' : f 0 x (startE N [.exc 0 x]) with
    | ok v' e1' => rw [q, q'] at this; obtain ⟨rfl, _⟩ := this; cases v <;> rfl
    | _ => rw [q, q'] at this; exact this.elim
  | exc x e1 => cases q' : f 0 _ (startE N [.exc 0 _]) with
    | exc x' e1' => rfl
    | _ => first | (rw [q, q'] at this; done) | (rw [q, q'] at this; exact this.elim)
  | bad => cases q' : f 0 x (startE N [.exc 0 x]) with
    | bad => rfl
    | _ => first | (rw [q, q'] at this; done) | (rw [q, q'] at this; exact this.elim)
theorem indH {N i : Nat} {f : Addr → Exn → M Fl} (hi : i ≠ 0) (h : ∀ a x, Rr a (f a x) (f 0 x)) (v : V) (a : Addr) (x : Exn) : runH N i f v a x = runH N i f .non 0 x := by
  have er : Er a ((startE N [.raw v]).set i (some (.exc a x))) ((startE N [.raw .non]).set i (some (.exc 0 x))) := by
    refine ⟨by simp [startE], fun j => ?_⟩
    by_cases q : i = j
    · subst q
      by_cases hl : i < (startE N [.raw v]).length
      · rw [List.getElem?_set_self hl, List.getElem?_set_self (by simpa [startE] using hl)]
        exact .exc x
      · rw [List.getElem?_eq_none (by simpa using hl), List.getElem?_eq_none (by simpa [startE] using hl)]
        exact .same _ fun b y z => nomatch z
    · rw [List.getElem?_set_ne q, List.getElem?_set_ne q]
      cases j with
      | zero => exact .raw v .non
      | succ j =>
        show Sr a (List.replicate (N - 1) none)[j]? (List.replicate (N - 1) none)[j]?
        refine .same _ fun b y z => ?_
        rw [List.getElem?_replicate] at z
        split at z <;> cases z
  have := h a x _ _ er
  unfold runH
  cases q : f a x ((startE N [.raw v]).set i (some (.exc a x))) with
  | ok v e1 => cases q' : f 0 x ((startE N [.raw .non]).set i (some (.exc 0 x))) with
    | ok v' e1' => rw [q, q'] at this; obtain ⟨rfl, _⟩ := this; cases v <;> rfl
    | _ => rw [q, q'] at this; exact this.elim
  | exc x e1 => cases q' : f 0 _ ((startE N [.raw .non]).set i (some (.exc 0 _))) with
    | exc x' e1' => rfl
    | _ => first | (rw [q, q'] at this; done) | (rw [q, q'] at this; exact this.elim)
  | bad => cases q' : f 0 x ((startE N [.raw .non]).set i (some (.exc 0 x))) with
    | bad => rfl
    | _ => first | (rw [q, q'] at this; done) | (rw [q, q'] at this; exact this.elim)
end DL
/-! dict displays of written texts; a dict of names that is made in three steps and is data from then on -/
namespace DL
open PySem PySem.Builtin L2 PyProof.Rows
section
variable {X : Cx} {W : WX}
def rUpd : V → List V → Hp → VK → Prop := fun x vs H Q => ∃ d e kvs more, x = .ref d ∧ vs = [.ref e] ∧ d ≠ e ∧ H d = some (.dK kvs) ∧ H e = some (.dK more) ∧ kvs.length + more.length ≤ sizeLine ∧ Q .non (upd H d (.dK (mergeK kvs more)))
theorem mt_upd : MtR X "dict.update" rUpd := by
  intro pins s σ H x vs v us Q I rx rv h
  obtain ⟨d, e, kvs, more, rfl, rfl, hne, hd, he, hz, q⟩ := h
  cases rx
  obtain ⟨u, rfl, ru⟩ := rv.one
  cases ru
  obtain ⟨_, sd, vs, kv, dd⟩ := dk_of I.hok hd
  obtain ⟨_, se, ws, kw, de⟩ := dk_of I.hok he
  refine call_meetsIn F.slot_dict_update dd.typeIs F.entry_dict_update (F.args_dict_update_2 _ _) (meets_dict_update (mixKind X.prog X.w) d e hne se) ⟨vs, ws, dd, de, by rw [← kv.length, ← kw.length]; exact hz, fun h' dd' _ hs => ?_⟩
  have hq : ∃ q, h'.get? d = some q := let ⟨q, _, _, hq, _⟩ := dd'; ⟨q, hq⟩
  refine ⟨.non, _, d_write (t' := s.toks) I (by rw [hd]; exact True.intro) hs hq (dk_new ?_ sd (kw.merge kv) dd'), rfl, q⟩
  have := length_mergeK more kvs
  omega
/-! ### displays -/
structure DKs (X : Cx) (pos : Pos) (keys : List (Option Expr)) (values : List Expr) (kvs : List (Key × V)) (dvs : List (Key × PyData)) : Prop where
  pps : PPs X pos keys values (kvs.map fun kv => (tC (kV kv.1), tC kv.2))
  rel : ∀ K S, RpKs K S kvs dvs
theorem dks_nil {pos : Pos} : DKs X pos [] [] [] [] := ⟨pps_nil, fun _ _ => .nil⟩
theorem dks_str {pos p1 p2 : Pos} {k v : Str} {i j : Nat} {ks : List (Option Expr)} {vs : List Expr} {kvs : List (Key × V)} {dvs : List (Key × PyData)} (h : DKs X pos ks vs kvs dvs) (hv : TxOk v := by decide +kernel) :
    DKs X pos (some (.Constant (.str k) i p1) :: ks) (.Constant (.str v) j p2 :: vs) ((.inr k, .str v) :: kvs) ((.inr k, .str v) :: dvs) :=
  ⟨pps_cons pe_str pe_str h.pps, fun K S => .cons (.str v hv) (h.rel K S)⟩
theorem dks_int {pos p1 p2 : Pos} {k : Str} {v : Int} {i j : Nat} {ks : List (Option Expr)} {vs : List Expr} {kvs : List (Key × V)} {dvs : List (Key × PyData)} (h : DKs X pos ks vs kvs dvs) :
    DKs X pos (some (.Constant (.str k) i p1) :: ks) (.Constant (.int v) j p2 :: vs) ((.inr k, .int v) :: kvs) ((.inr k, .int v) :: dvs) :=
  ⟨pps_cons pe_str pe_int h.pps, fun K S => .cons (.int v) (h.rel K S)⟩
theorem tPairs_c : ∀ (kvs : List (Key × V)) (σ : L2.St) (H : Hp) (Q : List (V × V) → Hp → Prop), Q (kvs.map fun kv => (kV kv.1, kv.2)) H → tPairs (kvs.map fun kv => (tC (kV kv.1), tC kv.2)) σ H Q
  | [], _, _, _, q => q
  | p :: r, σ, H, Q, q => tPairs_c r σ H _ q
theorem pe_dks {pos : Pos} {keys : List (Option Expr)} {values : List Expr} {kvs : List (Key × V)} {dvs : List (Key × PyData)} (h : DKs X pos keys values kvs dvs) (hall : keys.all (·.isSome) = true) (hl : keys.length = values.length) (h0 : keys ≠ [])
    (h15 : keys.length ≤ 15) (hk : kvs.length ≤ 15) : PE X (.Dict keys values pos) (fun _ H Q => ∀ p, H p = none → Q (.ref p) (upd H p (.dK (mergeK [] kvs)))) := by
  refine PE_mono (pe_disp h.pps hall hl h0 h15) fun σ H Q q => ?_
  intro p hp
  refine tPairs_c kvs σ _ _ ⟨upd_same, kvs, rfl, hk, ?_⟩
  have e : upd (upd H p (.dK [])) p (.dK (mergeK [] kvs)) = upd H p (.dK (mergeK [] kvs)) := by
    funext q
    by_cases h : q = p
    · subst h; rw [upd_same, upd_same]
    · rw [upd_ne h, upd_ne h, upd_ne h]
  rw [e]
  exact q p hp
theorem de_dks {pos : Pos} {keys : List (Option Expr)} {values : List Expr} {kvs : List (Key × V)} {dvs : List (Key × PyData)} {ds : List (PyData × PyData)} (h : DKs X pos keys values kvs dvs) (he : mkD (dMerge [] dvs) = ds := by rfl) (hall : keys.all (·.isSome) = true := by rfl) (hl : keys.length = values.length := by rfl) (h0 : keys ≠ [] := by simp)
    (h15 : keys.length ≤ 15 := by decide) (hk : kvs.length ≤ 15 := by decide) : DE X W (.Dict keys values pos) (pure (.dict ds)) := by
  refine PE_mono (pe_dks h hall hl h0 h15 hk) fun σ H Q ⟨F, P, S, env, rel, post⟩ => ?_
  intro p hp
  have gr := Grow.new (K := X.K) (o := .dK (mergeK [] kvs)) rel.sh hp
  refine post (.ref p) _ _ (rel.grow gr) gr.ss (.dct (Rd.of upd_same) ?_)
  rw [← he]
  exact RpKs.merge (h.rel _ _) .nil
theorem RpKv.ks {K : PySem.W.Frag} {S : Hp} : ∀ {ws : List (Key × V)} {kvs : List (Key × PyData)}, RpKv K S ws (mkD kvs) → RpKs K S ws kvs
  | [], [], _ => .nil
  | [], _ :: _, h => by cases h
  | _ :: _, [], h => by cases h
  | w :: ws, p :: kvs, h => by
    obtain ⟨pk, pd⟩ := p
    generalize hk : kD pk = kk at h
    simp only [mkD, List.map_cons, hk] at h
    cases h with
    | cons h1 h2 =>
      have e := congrArg asK hk
      rw [asK_kD, asK_kD] at e
      cases e
      exact .cons h1 (RpKv.ks h2)
def M.setN (i : Nat) (ds : List (PyData × PyData)) : M Unit := fun e => if i < e.length then .ok () (e.set i (some (.dat (.dict ds)))) else .bad
/-- x = {..}; x.update({..}); x[k] = t; it is data behind that -/
theorem dss_names {i : Nat} {x : Str} {k t : Str} {j1 j2 : Nat} {pos1 pos2 pos3 pa pb pb2 pc pd pe pf pg ph pi : Pos} {keys1 keys2 : List (Option Expr)} {values1 values2 : List Expr} {kvs1 kvs2 : List (Key × V)} {dvs1 dvs2 : List (Key × PyData)} {ds : List (PyData × PyData)} {rest : List Stmt} {g : M Fl}
    (hN : X.N.Nodup) (hu : X.A.units + 64 < cLine) (h1 : DKs X pos1 keys1 values1 kvs1 dvs1) (h2 : DKs X pos2 keys2 values2 kvs2 dvs2) (hr : DSs X W rest g)
    (he : mkD (dPutG (dMerge (dMerge [] dvs1) (dMerge [] dvs2)) (.inr k) (.str t)) = ds := by rfl) (ht : TxOk t := by decide +kernel)
    (hi : X.N[i]? = some x := by rfl) (hx : Loc X.env.scope x := by first | exact Or.inl rfl | exact Or.inr rfl) (hv : Vis X.env.scope x := by first | exact Or.inl rfl | exact Or.inr (Or.inl rfl) | exact Or.inr (Or.inr rfl))
    (hd : (x == ("__debug__" : Str)) = false := by decide) (hcd : (x == ("__classdict__" : Str)) = false := by decide)
    (ha1 : keys1.all (·.isSome) = true := by rfl) (hl1 : keys1.length = values1.length := by rfl) (h01 : keys1 ≠ [] := by simp) (h151 : keys1.length ≤ 15 := by decide) (hk1 : kvs1.length ≤ 15 := by decide)
    (ha2 : keys2.all (·.isSome) = true := by rfl) (hl2 : keys2.length = values2.length := by rfl) (h02 : keys2 ≠ [] := by simp) (h152 : keys2.length ≤ 15 := by decide) (hk2 : kvs2.length ≤ 15 := by decide)
    (hs1 : swapsWith (.Dict keys1 values1 pos1) (some (.Name x pa)) pb.line X.env = pure false := by rfl) (hf : X.fn x = true ∨ X.env.scope.names.lookup x = some .local := by first | exact .inl rfl | exact .inr rfl | assumption)
    (hs2 : swapsWith (.Call (.Attribute (.Name x pc) "update" pd) [.Dict keys2 values2 pos2] [] pe) none pf.line X.env = pure false := by rfl)
    (hs3 : swapsWith (.Constant (.str t) j2 pi) (some (.Subscript (.Name x pg) (.Constant (.str k) j1 ph) pos3)) pb2.line X.env = pure false := by rfl)
    (hline : (pd.endLine == pe.line) = true := by rfl)
    (hbase : attributeBase (.Name x pc) "update" X.env (eval (.Name x pc) X.env) = eval (.Name x pc) X.env := by rfl) :
    DSs X W (.Assign [.Name x pa] (.Dict keys1 values1 pos1) pb :: .Expr (.Call (.Attribute (.Name x pc) "update" pd) [.Dict keys2 values2 pos2] [] pe) pf :: .Assign [.Subscript (.Name x pg) (.Constant (.str k) j1 ph) pos3] (.Constant (.str t) j2 pi) pb2 :: rest)
      (mSeq (M.setN i ds >>= fun _ => pure .nx) g) := by
  have e1 := pe_dks h1 ha1 hl1 h01 h151 hk1
  have e2 := pe_dks h2 ha2 hl2 h02 h152 hk2
  have v1 : ∀ {p : Pos}, PE X (.Name x p) (tVar i) := pe_var hi hv hd hcd
  refine PSs_mono (pss_cons (ps_set hN hi hx e1 hs1 hf) (pss_cons (ps_expr (pe_bm F.plainAttrs_dict F.slot_dict_update F.type_dict_update mt_upd v1 (pa_cons e2 pa_nil) hbase (by rfl) hline) hs2) (pss_cons (ps_dput (by omega) v1 pe_str pe_str hs3) hr))) ?_
  rintro D σ H ⟨F, P, S, env, rel, post⟩
  intro p hp
  by_cases hl : i < env.length
  rotate_left
  · unfold mSeq at post
    simp only [bind_run, M.setN, if_neg hl, then_bad] at post
    exact post.elim
  have hpi : (σ.set i (some (V.ref p)))[i]? = some (some (V.ref p)) := by rw [List.getElem?_set_self (by rw [rel.len]; exact hl)]
  refine ⟨.ref p, hpi, .inr (.inr (.inl ⟨rfl, .inl ⟨_, upd_same⟩⟩)), fun p2 hp2 => ?_⟩
  have hne : p ≠ p2 := fun z => by subst z; rw [upd_same] at hp2; cases hp2
  have hp2' : H p2 = none := by rw [upd_ne (Ne.symm hne)] at hp2; exact hp2
  have L1 := length_mergeK kvs1 []
  have L2 := length_mergeK kvs2 []
  have L3 := length_mergeK (mergeK [] kvs2) (mergeK [] kvs1)
  rw [List.length_nil, Nat.zero_add] at L1 L2
  refine ⟨p, p2, _, _, rfl, rfl, hne, by rw [upd_ne hne]; exact upd_same, upd_same, by rw [sizeLine_eq]; omega, ?_⟩
  refine ⟨.ref p, hpi, p, _, rfl, DPut.k (k := .inr k) upd_same (by rw [sizeLine_eq]; omega), ?_⟩
  generalize hfin : putK (mergeK (mergeK [] kvs1) (mergeK [] kvs2)) (Sum.inr k) (V.str t) = fin
  have g1 := Grow.new (K := X.K) (o := .dK fin) rel.sh hp
  have g2 := Grow.new (K := X.K) (p := p2) (o := .dK (mergeK [] kvs2)) g1.sh (by rw [upd_ne (Ne.symm hne)]; exact hp2')
  have e : upd (upd (upd (upd H p (.dK (mergeK [] kvs1))) p2 (.dK (mergeK [] kvs2))) p (.dK (mergeK (mergeK [] kvs1) (mergeK [] kvs2)))) p (.dK fin) = upd (upd H p (.dK fin)) p2 (.dK (mergeK [] kvs2)) := by
    funext q
    by_cases h : q = p
    · subst h; rw [upd_same, upd_ne hne, upd_same]
    · rw [upd_ne h, upd_ne h]
      by_cases h' : q = p2
      · subst h'; rw [upd_same, upd_same]
      · rw [upd_ne h', upd_ne h', upd_ne h, upd_ne h]
  rw [e]
  have rp : Rp X.K (upd (upd S p (.dK fin)) p2 (.dK (mergeK [] kvs2))) (.ref p) (.dict ds) := by
    refine .dct (Rd.of (g2.ss _ _ upd_same)) ?_
    rw [← he, ← hfin]
    exact RpKv.put (RpKs.merge (RpKv.ks (RpKs.merge (h2.rel _ _) .nil)) (RpKs.merge (h1.rel _ _) .nil)) (.str t ht)
  have r2 := (rel.grow (g1.trans g2)).setD (i := i) rp
  refine ⟨F, P, _, _, r2, ?_⟩
  unfold mSeq at post
  simp only [bind_run, M.setN, if_pos hl, then_ok, pure_run] at post
  exact PostS.mono post (g1.trans g2).ss fun fl e q => q.mono (g1.trans g2).ss
end
end DL
/-! sets of tuples of ints and texts: what a set that was filled from nothing is -/
namespace DL
open PySem L2 PyProof.Rows
section
variable {P : Program} {w : World} {A : Around} {E : Value → Shared → Prop} {s : Shared}
/-- the tuple at a, as a key -/
abbrev AtK (P : Program) (w : World) (h : Heap) (k : List Key) (a : Addr) : Prop := IsTupleKey (mixKind P w) h k a
abbrev hsK (P : Program) (w : World) (k : List Key) : Int := tupleKeyHash (mixKind P w) k
/-- an int or a text -/
def lfV (v : Value) : Prop := (∃ i t, v = Value.int i t) ∨ ∃ x t, v = Value.str x t
theorem lf_items {ks : List Key} {vs : List Value} (h : PySem.ItemsAre (mixKind P w) ks vs) : ∀ v ∈ vs, lfV v := by
  induction h with
  | nil => exact fun v hv => nomatch hv
  | cons hk _ ih =>
    intro v hv
    rcases List.mem_cons.mp hv with e | hv
    · subst e
      rcases keyIs_shape hk with ⟨i, t, _, e⟩ | ⟨x, t, _, e⟩
      · exact .inl ⟨i, t, e⟩
      · exact .inr ⟨x, t, e⟩
    · exact ih v hv
theorem lf_cls {v : Value} (h : lfV v) (n : Nat) : ofAClassStatement n v = pure false := by
  rcases h with ⟨i, t, rfl⟩ | ⟨x, t, rfl⟩ <;> cases n <;> rfl
theorem lf_hash {v : Value} (h : lfV v) (n : Nat) : ∃ b, hashByValue n v = pure b := by
  rcases h with ⟨i, t, rfl⟩ | ⟨x, t, rfl⟩ <;> cases n <;> exact ⟨_, rfl⟩
theorem atK_cls {k : List Key} {b : Addr} {Q : Bool → Shared → Prop} (h : AtK P w s.heap k b) (q : Q false s) : wpAny (model P w) A (ofAClassStatement 8 (.ref b)) Q E s := by
  have ty := h.typeIs
  obtain ⟨o, its, n, ho, _, hd, hi⟩ := h
  have all := lf_items hi
  unfold ofAClassStatement
  refine wpAny_bind (wpAny_typeOf ty ?_)
  dsimp only
  simp only [show (("tuple" : String) == "tuple") = true from by decide, if_true, Bool.not_true, Bool.false_eq_true, if_false]
  try refine wpAny_bind (wpAny_pure ?_)
  try simp only [Bool.not_true, Bool.false_eq_true, if_false]
  show wpAny _ _ (seqItems? (.ref b) >>= _) _ _ s
  refine wpAny_bind (wpAny_seqItems ho hd ?_)
  dsimp only
  refine wpAny_bind ?_
  show wpAny _ _ (forIn its _ _) _ _ s
  rw [← Array.forIn_toList]
  refine wpAny_forIn_list _ (fun l r z => (r.1 = none ∧ z = s) ∧ ∀ v ∈ l, lfV v) _ (fun v l r z hz => ?_) (fun r z hz => ?_) _ _ ⟨⟨rfl, rfl⟩, all⟩
  · obtain ⟨⟨h1, rfl⟩, h2⟩ := hz
    rw [lf_cls (h2 v List.mem_cons_self)]
    refine wpAny_bind (wpAny_pure ?_)
    simp only [Bool.false_eq_true, if_false]
    exact wpAny_pure ⟨⟨rfl, rfl⟩, fun u hu => h2 u (List.mem_cons_of_mem _ hu)⟩
  · obtain ⟨r1, r2⟩ := r
    obtain ⟨⟨h1, rfl⟩, _⟩ := hz
    simp only at h1
    subst h1
    exact wpAny_pure q
theorem atK_hash {k : List Key} {b : Addr} {Q : Bool → Shared → Prop} (h : AtK P w s.heap k b) (q : ∀ c, Q c s) : wpAny (model P w) A (hashByValue 8 (.ref b)) Q E s := by
  have ty := h.typeIs
  obtain ⟨o, its, n, ho, _, hd, hi⟩ := h
  have all := lf_items hi
  unfold hashByValue
  refine wpAny_bind (wpAny_specialOf ty F.slot_tuple_hash.lookup ?_)
  show wpAny _ _ (seqItems? (.ref b) >>= _) _ _ s
  refine wpAny_bind (wpAny_seqItems ho hd ?_)
  refine wpAny_bind ?_
  show wpAny _ _ (forIn its _ _) _ _ s
  rw [← Array.forIn_toList]
  refine wpAny_forIn_list _ (fun l r z => (r.1 = none ∧ z = s) ∧ ∀ v ∈ l, lfV v) _ (fun v l r z hz => ?_) (fun r z hz => ?_) _ _ ⟨⟨rfl, rfl⟩, all⟩
  · obtain ⟨⟨h1, rfl⟩, h2⟩ := hz
    obtain ⟨c, hc⟩ := lf_hash (h2 v List.mem_cons_self) 7
    rw [hc]
    refine wpAny_bind (wpAny_pure ?_)
    cases c with
    | true =>
      simp only [Bool.not_true, Bool.false_eq_true, if_false]
      exact wpAny_pure ⟨⟨rfl, rfl⟩, fun u hu => h2 u (List.mem_cons_of_mem _ hu)⟩
    | false =>
      simp only [Bool.not_false, if_true]
      exact wpAny_pure (wpAny_pure (q false))
  · obtain ⟨r1, r2⟩ := r
    obtain ⟨⟨h1, rfl⟩, _⟩ := hz
    simp only at h1
    subst h1
    exact wpAny_pure (q true)
theorem atK_unseen {k : List Key} {b : Addr} {ys : List Value} {Q : Bool → Shared → Prop} (h : AtK P w s.heap k b) (hy : ∀ y ∈ ys, ∃ k' c, y = Value.ref c ∧ AtK P w s.heap k' c) (q : Q false s) :
    wpAny (model P w) A (searchCouldBeSeen (.ref b) ys) Q E s := by
  unfold searchCouldBeSeen
  refine wpAny_bind ?_
  refine wpAny_forIn_list _ (fun l r z => (r.1 = none ∧ z = s) ∧ ∀ y ∈ l, ∃ k' c, y = Value.ref c ∧ AtK P w s.heap k' c) _ (fun v l r z hz => ?_) (fun r z hz => ?_) _ _ ⟨⟨rfl, rfl⟩, hy⟩
  · obtain ⟨⟨h1, rfl⟩, h2⟩ := hz
    obtain ⟨k', c, rfl, hc⟩ := h2 v List.mem_cons_self
    have go : ∀ y ∈ l, ∃ k' c, y = Value.ref c ∧ AtK P w z.heap k' c := fun y hy => h2 y (List.mem_cons_of_mem _ hy)
    dsimp only
    by_cases c0 : (b == c || (carriedByValue (.ref b) && carriedByValue (.ref c))) = true
    · exact wp_if_pos c0 (wpAny_pure ⟨⟨rfl, rfl⟩, go⟩)
    · refine wp_if_neg c0 (wpAny_bind (wpAny_eqIsQuiet_tuple h ?_))
      simp only [Bool.not_true, Bool.false_eq_true, if_false]
      refine wpAny_bind (wpAny_eqIsQuiet_tuple hc ?_)
      simp only [Bool.not_true, Bool.false_eq_true, if_false]
      refine wpAny_bind (atK_cls h ?_)
      simp only [Bool.false_eq_true, if_false]
      refine wpAny_bind (atK_cls hc ?_)
      simp only [Bool.false_eq_true, if_false]
      exact wpAny_pure ⟨⟨rfl, rfl⟩, go⟩
  · obtain ⟨r1, r2⟩ := r
    obtain ⟨⟨h1, rfl⟩, _⟩ := hz
    simp only at h1
    subst h1
    exact wpAny_pure q
/-! ### the set -/
abbrev KA := Addr × List Key
def rwK (P : Program) (w : World) (l : List KA) : List (Int × Value) := l.map fun p => (hsK P w p.2, Value.ref p.1)
/-- the set at a, its table t, holds the tuples l, in the order of the table -/
structure SK (P : Program) (w : World) (h : Heap) (a : Addr) (l : List KA) (o : Obj) (es : Array (Int × Value)) (ep : Nat) (t : SetTable) : Prop where
  at_ : h.get? a = some o
  ex : o.ExactSet
  dat : o.data = .set es ep t
  rows : es.toList = rwK P w l
  tab : TabOk t (l.map fun p => hsK P w p.2)
  nd : (l.map Prod.snd).Nodup
  tup : ∀ p ∈ l, AtK P w h p.2 p.1
  ld : w.params.followText "set-order" = true ∨ t.led = true
  le : l.length ≤ t.mask
  few : l.length < 64
variable {a : Addr} {l : List KA} {o : Obj} {es : Array (Int × Value)} {ep : Nat} {t : SetTable}
theorem rwK_size (h : es.toList = rwK P w l) : es.size = l.length := by
  rw [← Array.length_toList, h, rwK, List.length_map]
theorem SK.fit (R : SK P w s.heap a l o es ep t) : t.fits es.size = true := by
  have h1 := R.tab.sz
  have h2 := R.le
  rw [List.length_map] at h1
  rw [rwK_size R.rows]
  simp only [SetTable.fits, SetTable.fill, R.tab.dm, Bool.and_eq_true, beq_iff_eq, decide_eq_true_eq]
  refine ⟨h1, ?_⟩
  show t.place.size + 0 ≤ t.mask
  omega
theorem rwK_get (h : es.toList = rwK P w l) {i : Nat} {p : KA} (hi : l[i]? = some p) : es[i]? = some (hsK P w p.2, Value.ref p.1) := by
  rw [← Array.getElem?_toList, h, rwK, List.getElem?_map, hi, Option.map_some]
theorem odd_ng (h : MaskOk t.mask) : ¬ t.gaveWay = true := by
  rw [SetTable.gaveWay, mask_odd h]
  decide
/-- where a key is looked for -/
abbrev p0 (t : SetTable) (h : Int) : SetTable.Probe := runAt t.mask (SetTable.bits h % (t.mask + 1)) (SetTable.bits h)
theorem nth_nd (m : Nat) : ∀ (n : Nat) (p : SetTable.Probe), p.dummy = none → (nth m p n).dummy = none
  | 0, _, h => h
  | n + 1, p, h => nth_nd m n (adv m p) (by unfold adv; split <;> exact h)
theorem look_go (R : SK P w s.heap a l o es ep t) {x : Addr} {k : List Key} (hx : AtK P w s.heap k x) (hu : A.units < cLine) {K : Nat} (hKf : K < 10 * SetTable.turns t.mask)
    (hK : way t.mask (hsK P w k) K ∉ t.place.toList) (hb : ∀ c, c < K → way t.mask (hsK P w k) c ∈ t.place.toList) {Q : SetFound → Shared → Prop}
    (yes : k ∈ l.map Prod.snd → Q (.there none) s) (no : k ∉ l.map Prod.snd → Q (.free (way t.mask (hsK P w k) K) false) s) :
    ∀ (n c f : Nat) (st : Option SetTable.Probe), K - c = n → c ≤ K → K - c < f → st.getD (t.probeStart (hsK P w k)) = nth t.mask (p0 t (hsK P w k)) c →
      (∀ (i : Nat) (p : KA), l[i]? = some p → p.2 = k → ∃ c', c ≤ c' ∧ c' < K ∧ t.place.toList[i]? = some (way t.mask (hsK P w k) c')) →
      wpAny (model P w) A (setSearchFrom a (.ref x) (hsK P w k) true f st) Q E s := by
  have step : ∀ c q, (nth t.mask (nth t.mask (p0 t (hsK P w k)) c) q).j = way t.mask (hsK P w k) (c + q) := fun c q => congrArg SetTable.Probe.j (nth_add t.mask c _ q).symm
  have stepP : ∀ c q, nth t.mask (nth t.mask (p0 t (hsK P w k)) c) q = nth t.mask (p0 t (hsK P w k)) (c + q) := fun c q => (nth_add t.mask c _ q).symm
  intro n
  induction n using Nat.strongRecOn with
  | ind n ih =>
    intro c f st hn hc hf hst hre
    cases f with
    | zero => exact absurd hf (Nat.not_lt_zero _)
    | succ f =>
      rw [setSearchFrom_succ]
      refine wpAny_bind (wpAny_setState_of R.at_ R.dat R.fit ?_)
      dsimp only
      refine wp_if_neg (odd_ng R.tab.mok) ?_
      try refine wpAny_bind (wpAny_pure ?_)
      have G := go_spec t R.tab.ris R.tab.dm (fun i => (es[i]?.map (·.1)).getD 0) (hsK P w k) (10 * SetTable.turns t.mask) (K - c) (nth t.mask (p0 t (hsK P w k)) c) (nth_nd _ _ _ rfl) (by omega)
        (fun q hq => by rw [step]; exact hb _ (by omega)) (by rw [step, show c + (K - c) = K from by omega]; exact hK)
      have hashIs : ∀ (i : Nat) (p : KA), l[i]? = some p → (fun i => (es[i]?.map (·.1)).getD 0) i = hsK P w p.2 := fun i p hp => by
        show (es[i]?.map (·.1)).getD 0 = _
        rw [rwK_get R.rows hp]; rfl
      rcases G with ⟨q, i, g1, g2, g3, g4, g5⟩ | ⟨g4, g5⟩
      · have pr : t.probe (fun i => (es[i]?.map (·.1)).getD 0) (hsK P w k) (st.getD (t.probeStart (hsK P w k))) = some (.candidate (way t.mask (hsK P w k) (c + q)) i (nth t.mask (p0 t (hsK P w k)) (c + q + 1))) := by
          have e3 := stepP c (q + 1)
          rw [hst, ← step, show c + q + 1 = c + (q + 1) from rfl, ← e3]
          exact g5
        rw [pr]
        dsimp only
        rw [step] at g2
        have hi : i < l.length := by
          have a1 := (List.getElem?_eq_some_iff.mp g2).1
          have a2 := R.tab.sz
          rw [List.length_map] at a2
          rw [Array.length_toList] at a1
          omega
        obtain ⟨p, hp⟩ : ∃ p, l[i]? = some p := ⟨l[i], List.getElem?_eq_getElem hi⟩
        have hm := List.mem_of_getElem? hp
        have hpt := R.tup p hm
        have body : wpAny (model P w) A (searchRest a (.ref x) (hsK P w k) true f es t (way t.mask (hsK P w k) (c + q)) i (nth t.mask (p0 t (hsK P w k)) (c + q + 1))) Q E s := by
          unfold searchRest
          rw [rwK_get R.rows hp]
          dsimp only
          refine wpAny_bind (wpAny_holding (wpAny_eqBool_tuple hu hpt hx (wpAny_bind (wpAny_setState_of R.at_ R.dat R.fit ?_))))
          dsimp only
          by_cases e : p.2 = k
          · exact wp_if_pos (by simp [e]) (wpAny_pure (yes (List.mem_map.mpr ⟨p, hm, e⟩)))
          · refine wp_if_neg (by simp [e]) ?_
            try refine wpAny_bind (wpAny_pure ?_)
            rw [L2.sameMem]
            dsimp only
            have sl := slot_live R.tab.ris g2
            simp only [if_true, sl, rwK_get R.rows hp]
            refine wpAny_bind (wpAny_isSame_ref_self (wpAny_bind (wpAny_pure ?_)))
            simp only [if_true]
            refine wp_if_neg (by simp [e]) ?_
            refine ih (K - (c + q + 1)) (by omega) (c + q + 1) f _ rfl (by omega) (by omega) rfl fun i' p' h1 h2 => ?_
            obtain ⟨c', b1, b2, b3⟩ := hre i' p' h1 h2
            refine ⟨c', ?_, b2, b3⟩
            apply Decidable.byContradiction
            intro hlt
            by_cases ec : c' = c + q
            · rw [ec] at b3
              have sl' := slot_live R.tab.ris b3
              rw [sl] at sl'
              injection sl' with ei
              subst ei
              rw [hp] at h1
              cases h1
              exact e h2
            · refine g4 (c' - c) i' (by omega) (by rw [step, show c + (c' - c) = c' from by omega]; exact b3) ?_
              exact (hashIs i' p' h1).trans (by rw [h2])
        by_cases hl : t.led = true
        · refine wp_if_neg (by simp [hl]) ?_
          try refine wpAny_bind (wpAny_pure ?_)
          exact body
        · refine wp_if_pos (by simp [hl]) (wpAny_bind (atK_unseen hx (fun y hy => ?_) ?_))
          · obtain ⟨e, he, ee⟩ := List.mem_map.mp hy
            have he1 : e ∈ es.toList := by
              have : e ∈ es ∧ e.1 = hsK P w k := by simpa using he
              simpa using this.1
            rw [R.rows] at he1
            obtain ⟨p2, h2, rfl⟩ := List.mem_map.mp he1
            exact ⟨p2.2, p2.1, ee.symm, R.tup p2 h2⟩
          · refine wp_if_neg (by decide) ?_
            try refine wpAny_bind (wpAny_pure ?_)
            exact body
      · have pr : t.probe (fun i => (es[i]?.map (·.1)).getD 0) (hsK P w k) (st.getD (t.probeStart (hsK P w k))) = some (.empty (way t.mask (hsK P w k) K) none) := by
          have e3 := step c (K - c)
          rw [show c + (K - c) = K from by omega] at e3
          rw [hst, ← e3]
          exact g5
        rw [pr]
        dsimp only
        refine wpAny_pure (no fun hm => ?_)
        obtain ⟨p, hp, e⟩ := List.mem_map.mp hm
        obtain ⟨i, hi, e2⟩ := List.getElem_of_mem hp
        have h1 : l[i]? = some p := by rw [List.getElem?_eq_getElem hi, e2]
        obtain ⟨c', b1, b2, b3⟩ := hre i p h1 e
        refine g4 (c' - c) i (by omega) (by rw [step, show c + (c' - c) = c' from by omega]; exact b3) ?_
        exact (hashIs i p h1).trans (by rw [e])
theorem look (R : SK P w s.heap a l o es ep t) {x : Addr} {k : List Key} (hx : AtK P w s.heap k x) (hu : A.units < cLine) {Q : SetFound → Shared → Prop} (yes : k ∈ l.map Prod.snd → Q (.there none) s)
    (no : ∀ K, k ∉ l.map Prod.snd → way t.mask (hsK P w k) K ∉ t.place.toList → (∀ c, c < K → way t.mask (hsK P w k) c ∈ t.place.toList) → Q (.free (way t.mask (hsK P w k) K) false) s) :
    wpAny (model P w) A (setSearch a (.ref x) (hsK P w k) true) Q E s := by
  have h1 := R.le
  obtain ⟨K, hK1, hK2, hK3⟩ := R.tab.first (by rw [List.length_map]; omega) (hsK P w k)
  have big : 10 * SetTable.turns t.mask ≤ 1420 := by
    unfold SetTable.turns
    rcases R.tab.mok with e | e | e <;> omega
  unfold setSearch
  refine look_go R hx hu hK1 hK2 hK3 yes (fun z => no K z hK2 hK3) (K - 0) 0 100000 none rfl (Nat.zero_le _) (by omega) rfl fun i p hp e => ?_
  have hi : i < t.place.toList.length := by
    have a1 := (List.getElem?_eq_some_iff.mp hp).1
    have a2 := R.tab.sz
    rw [List.length_map] at a2
    rw [Array.length_toList]
    omega
  obtain ⟨c, b1, b2⟩ := R.tab.before hK2 (i := i) (h := hsK P w k) (by rw [List.getElem?_map, hp, Option.map_some, e]) (List.getElem?_eq_getElem hi)
  exact ⟨c, Nat.zero_le _, b1, by rw [b2]; exact List.getElem?_eq_getElem hi⟩
end
end DL
/-! sets of tuples: laid anew, added to -/
namespace DL
open PySem L2 PyProof.Rows
theorem pick_all {α : Type} : ∀ l : List α, (List.range l.length).filterMap (fun i => l[i]?) = l
  | [] => rfl
  | x :: l => by
    rw [List.length_cons, List.range_succ_eq_map, List.filterMap_cons, List.filterMap_map]
    show x :: (List.range l.length).filterMap (fun i => l[i]?) = _
    rw [pick_all l]
theorem pick_map {α β : Type} (l : List α) (f : α → β) (g : Nat → β) (hg : ∀ (i : Nat) x, l[i]? = some x → g i = f x) : ∀ js : List Nat, (∀ j ∈ js, j < l.length) → (js.filterMap fun i => l[i]?).map f = js.map g
  | [], _ => rfl
  | j :: js, h => by
    have hj := List.getElem?_eq_getElem (h j List.mem_cons_self)
    rw [List.filterMap_cons_some hj, List.map_cons, List.map_cons, hg j _ hj, pick_map l f g hg js fun i hi => h i (List.mem_cons_of_mem _ hi)]
section
variable {P : Program} {w : World} {A : Around} {E : Value → Shared → Prop} {s : Shared} {a : Addr} {l : List KA} {o : Obj} {es : Array (Int × Value)} {ep : Nat} {t : SetTable}
/-- a set of tuples with room for one more -/
def TSet (P : Program) (w : World) (h : Heap) (a : Addr) (l : List KA) : Prop := ∃ o es ep t, SK P w h a l o es ep t ∧ l.length * 5 < t.mask * 3
theorem atK_same {h h' : Heap} {k : List Key} {b : Addr} (x : AtK P w h k b) (ho : h.get? a = some o) (hd : o.data = .set es ep t) (hs : Heap.SameBut a h h') : AtK P w h' k b := by
  obtain ⟨u, its, n, hu, hc, hdu, hi⟩ := x
  refine ⟨u, its, n, (hs.2 b fun e => ?_).trans hu, hc, hdu, hi⟩
  subst e
  rw [ho] at hu
  cases hu
  rw [hd] at hdu
  cases hdu
theorem relayK (R : SK P w s.heap a l o es ep t) {wanted M : Nat} (hw : SetTable.sizeAbove wanted - 1 = M) (hM : MaskOk M) (hw2 : SetTable.sizeAbove wanted ≤ 128) (hn : l.length * 5 < M * 3) {Q : Unit → Shared → Prop}
    (hQ : ∀ h' l', Heap.SameBut a s.heap h' → TSet P w h' a l' → l'.Perm l → Q () { s with heap := h' }) : wpAny (model P w) A (setRelay a wanted) Q E s := by
  have hsz := rwK_size R.rows
  have few := R.few
  obtain ⟨t2, ord, e1, pm, T, em, el, _, ed⟩ := relaid_ok t (hs := es.map (·.1)) (wanted := wanted) hw hM (by rw [Array.size_map, hsz]; omega)
  rw [Array.size_map, hsz] at pm
  have hlt : ∀ j ∈ ord.toList, j < l.length := fun j hj => List.mem_range.mp (pm.mem_iff.mp hj)
  have eg : ∀ i : Nat, es[i]? = (l[i]?).map fun p => (hsK P w p.2, Value.ref p.1) := fun i => by rw [← Array.getElem?_toList, R.rows, rwK, List.getElem?_map]
  have r1 : (ord.filterMap (es[·]?)).toList = rwK P w (ord.toList.filterMap fun i => l[i]?) := by
    have : (ord.filterMap (es[·]?)).toList = ord.toList.filterMap (es[·]?) := by simp
    rw [this, rwK, List.map_filterMap]
    exact congrArg (fun f => ord.toList.filterMap f) (funext eg)
  have r2 : (ord.toList.filterMap fun i => l[i]?).Perm l := by
    have := pm.filterMap fun i => l[i]?
    rwa [pick_all] at this
  have r3 : (ord.toList.filterMap fun i => l[i]?).map (fun p => hsK P w p.2) = ord.toList.map fun i => (es.map (·.1)).getD i 0 := by
    refine pick_map l _ _ (fun i x hx => ?_) _ hlt
    have : (es.map (·.1))[i]? = some (hsK P w x.2) := by rw [Array.getElem?_map, eg, hx]; rfl
    simp [Array.getD_eq_getD_getElem?, this]
  rw [← r3] at T
  generalize ord.toList.filterMap (fun i => l[i]?) = l2 at r1 r2 T
  have hs2 := rwK_size r1
  have hl2 := r2.length_eq
  rw [setRelay_eq]
  refine wpAny_bind (wpAny_setState_of R.at_ R.dat R.fit ?_)
  dsimp only
  refine wp_if_neg (by rw [sizeLine_eq]; omega) ?_
  try refine wpAny_bind (wpAny_pure ?_)
  rw [e1]
  dsimp only
  refine wpAny_bind ?_
  refine wp_if_neg (by rw [hs2, hl2, hsz]; simp) ?_
  try refine wpAny_bind (wpAny_pure ?_)
  refine wpAny_pure ?_
  dsimp only
  refine wpAny_storeSet_of R.at_ R.dat ?_ (by rw [hs2, hl2, sizeLine_eq]; omega)
  have sb : Heap.SameBut a s.heap (s.heap.update a (Obj.putSet (ord.filterMap (es[·]?)) t2)) := Heap.SameBut.update ..
  refine hQ _ l2 sb ⟨_, _, _, _, ⟨store_at R.at_ R.dat, ⟨R.ex.1, R.ex.2.1, R.ex.2.2⟩, rfl, r1, T, (r2.map _).nodup_iff.mpr R.nd, fun p hp => atK_same (R.tup p (r2.mem_iff.mp hp)) R.at_ R.dat sb, ?_, ?_, by rw [hl2]; exact few⟩, ?_⟩ r2
  · rw [el]; exact R.ld
  · rw [hl2, em]; omega
  · rw [hl2, em]; exact hn
theorem TSet.add (R : TSet P w s.heap a l) {x : Addr} {k : List Key} (hx : AtK P w s.heap k x) (hu : A.units < cLine) (few : l.length + 1 < 64) {Q : Bool → Shared → Prop}
    (hQ : ∀ b h' l', Heap.SameBut a s.heap h' → TSet P w h' a l' → (k ∈ l.map Prod.snd → l' = l) → (k ∉ l.map Prod.snd → l'.Perm ((x, k) :: l)) → Q b { s with heap := h' }) :
    wpAny (model P w) A (setAddHashed a (.ref x) (hsK P w k)) Q E s := by
  have R0 := R
  obtain ⟨o, es, ep, t, R, rm⟩ := R
  have hsz := rwK_size R.rows
  unfold setAddHashed
  refine wpAny_holding ?_
  rw [show (100000 : Nat) = 99999 + 1 from rfl, setAddHashedIn_succ]
  refine wpAny_bind (wpAny_setState_of R.at_ R.dat R.fit ?_)
  dsimp only
  refine wp_if_neg (by simp [byScan, Value.scannable]) ?_
  try refine wpAny_bind (wpAny_pure ?_)
  refine wpAny_bind (look R hx hu (fun hm => ?_) fun K hm hK hb => ?_)
  · dsimp only
    exact wpAny_pure (hQ false s.heap l (Heap.SameBut.refl a s.heap) R0 (fun _ => rfl) fun z => absurd hm z)
  · dsimp only
    refine wpAny_bind (wpAny_setState_of R.at_ R.dat R.fit ?_)
    dsimp only
    obtain ⟨q1, q2, q3, q4, q5, q6, q7, q8, q9⟩ := R.tab.put hK hb
    generalize hpt : t.put (way t.mask (hsK P w k) K) = pt at q1 q3 q4 q5 q6 q7 q8 q9 ⊢
    obtain ⟨t1, p⟩ := pt
    dsimp only at q1 q3 q4 q5 q6 q7 q8 q9 ⊢
    subst q1
    generalize hpp : SetTable.below t.place (way t.mask (hsK P w k) K) = p at q2 q3 ⊢
    have hin : (SetTable.insertAt es p (hsK P w k, Value.ref x)).toList = rwK P w (l.take p ++ (x, k) :: l.drop p) := by
      rw [SetTable.toList_insertAt, R.rows]
      simp only [rwK, List.map_append, List.map_cons, List.map_take, List.map_drop]
    have pm : (l.take p ++ (x, k) :: l.drop p).Perm ((x, k) :: l) := put_perm l p (x, k)
    have hhs : (l.take p ++ (x, k) :: l.drop p).map (fun p => hsK P w p.2) = (l.map fun p => hsK P w p.2).take p ++ hsK P w k :: (l.map fun p => hsK P w p.2).drop p := by
      rw [List.map_append, List.map_cons, List.map_take, List.map_drop]
    rw [← hhs] at q3
    have hes := rwK_size hin
    generalize SetTable.insertAt es p (hsK P w k, Value.ref x) = es1 at hin hes ⊢
    generalize l.take p ++ (x, k) :: l.drop p = l1 at pm q3 hin hes
    have hl1 : l1.length = l.length + 1 := pm.length_eq
    have nd1 : (l1.map Prod.snd).Nodup := by
      refine (pm.map _).nodup_iff.mpr ?_
      rw [List.map_cons]
      exact List.nodup_cons.mpr ⟨hm, R.nd⟩
    have mk : MaskOk t1.mask := q3.mok
    /- what is stored, be it plain or not -/
    have fin : ∀ t2 : SetTable, t2.place = t1.place → t2.dummies = t1.dummies → t2.mask = t1.mask → t2.led = t1.led → 
        wpAny (model P w) A (storeSet a es1 t2 >>= fun _ => if (!false && t2.tooFull) = true then (setRelay a (SetTable.grown (es.size + 1)) >>= fun _ => pure true) else pure true) Q E s := by
      intro t2 c1 c2 c3 c4
      have T2 : TabOk t2 (l1.map fun p => hsK P w p.2) := ⟨by rw [c1]; exact q3.ris, by rw [c2]; exact q3.dm, by rw [c1]; exact q3.sz, by rw [c3]; exact q3.mok, fun x hx => by rw [c1] at hx; rw [c3]; exact q3.bd x hx, fun i h j h1 h2 => by rw [c1] at h2 ⊢; rw [c3]; exact q3.reach i h j h1 h2⟩
      refine wpAny_bind (wpAny_storeSet_of R.at_ R.dat ?_ (by rw [hes, hl1, sizeLine_eq]; omega))
      have sb : Heap.SameBut a s.heap (s.heap.update a (Obj.putSet es1 t2)) := Heap.SameBut.update ..
      have R1 : SK P w (s.heap.update a (Obj.putSet es1 t2)) a l1 { o with data := .set es1 (ep + 1) t2 } es1 (ep + 1) t2 := by
        refine ⟨store_at R.at_ R.dat, ⟨R.ex.1, R.ex.2.1, R.ex.2.2⟩, rfl, hin, T2, nd1, fun q hq => ?_, by rw [c4, q5]; exact R.ld, by rw [hl1, c3, q4]; have := R.tab.mok; rcases this with e | e | e <;> omega, by rw [hl1]; exact few⟩
        rcases List.mem_cons.mp (pm.mem_iff.mp hq) with e | hq
        · rw [e]; exact atK_same hx R.at_ R.dat sb
        · exact atK_same (R.tup q hq) R.at_ R.dat sb
      have fill : t2.fill = l.length + 1 := by
        have h1 := T2.sz
        rw [List.length_map, hl1] at h1
        simp only [SetTable.fill, T2.dm]
        show t2.place.size + 0 = _
        omega
      by_cases hf : t2.tooFull = true
      · have hfull : (l.length + 1) * 5 ≥ t2.mask * 3 := by
          unfold SetTable.tooFull at hf
          rw [decide_eq_true_eq, fill] at hf
          exact hf
        have which : (t.mask = 7 ∧ l.length = 4) ∨ (t.mask = 31 ∧ l.length = 18) := by
          rw [c3, q4] at hfull
          rcases R.tab.mok with e | e | e
          · exact .inl ⟨e, by omega⟩
          · exact .inr ⟨e, by omega⟩
          · omega
        have go : ∀ M, SetTable.sizeAbove (SetTable.grown (l.length + 1)) - 1 = M → MaskOk M → SetTable.sizeAbove (SetTable.grown (l.length + 1)) ≤ 128 → (l.length + 1) * 5 < M * 3 →
            wpAny (model P w) A (setRelay a (SetTable.grown (l.length + 1))) (fun _ s' => wpAny (model P w) A (pure true) Q E s') E { s with heap := s.heap.update a (Obj.putSet es1 t2) } := fun M g1 g2 g3 g4 =>
          relayK (s := { s with heap := s.heap.update a (Obj.putSet es1 t2) }) R1 g1 g2 g3 (by rw [hl1]; exact g4) fun h' l' sb2 R2 pm2 => wpAny_pure (hQ true h' l' (sb.trans sb2) R2 (fun z => absurd z hm) fun _ => pm2.trans pm)
        rw [hsz]
        first
          | (refine wpAny_bind ?_; refine wp_if_pos (by simp [hf]) ?_)
          | (refine wp_if_pos (by simp [hf]) ?_; refine wpAny_bind ?_)
        rcases which with ⟨_, e⟩ | ⟨_, e⟩
        · exact go 31 (by rw [e, size_20]) (.inr (.inl rfl)) (by rw [e, size_20]; decide) (by omega)
        · exact go 127 (by rw [e, size_76]) (.inr (.inr rfl)) (by rw [e, size_76]; decide) (by omega)
      · have hnf : ¬ ((l.length + 1) * 5 ≥ t2.mask * 3) := fun z => hf (by unfold SetTable.tooFull; rw [decide_eq_true_eq, fill]; exact z)
        have R2 : TSet P w (s.heap.update a (Obj.putSet es1 t2)) a l1 := ⟨_, _, _, _, R1, by rw [hl1]; omega⟩
        first
          | (refine wp_if_neg (by simp [hf]) ?_; exact wpAny_pure (hQ true _ l1 sb R2 (fun z => absurd z hm) fun _ => pm))
          | (refine wpAny_bind ?_; refine wp_if_neg (by simp [hf]) ?_; exact wpAny_pure (wpAny_pure (hQ true _ l1 sb R2 (fun z => absurd z hm) fun _ => pm)))
    split
    · refine wpAny_bind (atK_hash hx fun c => ?_)
      cases c
      · exact fin _ rfl rfl rfl rfl
      · exact fin _ rfl rfl rfl rfl
    · refine wpAny_bind (wpAny_pure ?_)
      exact fin _ rfl rfl rfl rfl
end
end DL
/-! set(xs) of a list of tuples of ints and texts -/
namespace DL
open PySem L2 PyProof.Rows
/-- what a set holds that was given these, one by one -/
structure Held (ks : List KA) (l : List KA) : Prop where
  sub : ∀ p ∈ l, p ∈ ks
  all : ∀ p ∈ ks, p.2 ∈ l.map Prod.snd
  len : l.length ≤ ks.length
  nd : (l.map Prod.snd).Nodup
section
variable {prog : Program} {w : World} {A : Around} {R : Result → Shared → Prop} {I : Addr} {fp wr : List Addr} {G : Array GenState → Array GenState → Prop} {n : Nat} {Pv : Nat → Value → Prop} {St : Nat → Shared → Prop}
theorem TSet.nd {h : Heap} {a : Addr} {l : List KA} (R : TSet prog w h a l) : (l.map Prod.snd).Nodup := by obtain ⟨_, _, _, _, R, _⟩ := R; exact R.nd
theorem TSet.at {h h' : Heap} {a : Addr} {l : List KA} (R : TSet prog w h a l) (ka : ∀ o, h.get? a = some o → h'.get? a = some o) (kt : ∀ p ∈ l, AtK prog w h' p.2 p.1) : TSet prog w h' a l := by
  obtain ⟨o, es, ep, t, R, rm⟩ := R
  exact ⟨o, es, ep, t, ⟨ka o R.at_, R.ex, R.dat, R.rows, R.tab, R.nd, kt, R.ld, R.le, R.few⟩, rm⟩
theorem atK_old {h h' : Heap} {k : List Key} {b : Addr} (x : AtK prog w h k b) (kp : ∀ c o, h.get? c = some o → h'.get? c = some o) : AtK prog w h' k b := by
  obtain ⟨o, its, n, ho, r⟩ := x
  exact ⟨o, its, n, kp b o ho, r⟩
theorem fillK (W : WalksS prog w A.in1 I fp wr G n Pv St) (S : Addr) (hSf : S ∉ fp) (ks : List KA) (hn : ks.length = n) (few : n < 63) (hu : A.in1.units < cLine) (hval : ∀ i v, Pv i v → ∃ p, ks[i]? = some p ∧ v = .ref p.1)
    (h0 : Heap) (hks : ∀ p ∈ ks, AtK prog w h0 p.2 p.1) (hS0 : h0.get? S = none) (hw0 : ∀ b ∈ wr, h0.get? b = none) :
    ∀ (k i : Nat) (s : Shared) (l : List KA), n - i = k → i ≤ n → St i s → (∀ b o, h0.get? b = some o → s.heap.get? b = some o) → TSet prog w s.heap S l → Held (ks.take i) l →
      (∀ s' l', Moved (S :: wr) G s s' → (∀ b o, h0.get? b = some o → s'.heap.get? b = some o) → TSet prog w s'.heap S l' → Held ks l' → R (.ok (.ret .none)) s') →
      codeAny (model prog w) A (.builtin "set.update.loop" ⟨[.ref S, .ref I], []⟩) R s := by
  have hSw : S ∉ wr := fun h => hSf (W.sub _ h)
  have up : ∀ b ∈ wr, b ∈ S :: wr := fun b hb => List.mem_cons_of_mem _ hb
  have old : ∀ {s s' : Shared}, Moved wr G s s' → (∀ b o, h0.get? b = some o → s.heap.get? b = some o) → ∀ b o, h0.get? b = some o → s'.heap.get? b = some o := fun hm hp b o e =>
    hm.heap b o (fun hb => by rw [hw0 b hb] at e; cases e) (hp b o e)
  intro k
  induction k with
  | zero =>
    intro i s l hk hi hst hp hS hH hR
    obtain rfl : i = n := by omega
    refine codeAny_builtin PyProof.Rows.F.entry_set_update_loop ?_
    rw [Around.under_plainId PyProof.Rows.F.plain_set_update_loop _]
    show wpAny _ A.in1 (pyNext (.ref I) >>= _) _ _ s
    refine wpAny_bind (W.done s _ _ hst fun s' hm => ?_)
    show wpAny _ A.in1 (ret Value.none) _ _ s'
    rw [← hn, List.take_length] at hH
    have hp' := old hm hp
    exact wpAny_pure (hR s' l (hm.mono up) hp' (hS.at (fun o e => hm.heap S _ hSw e) fun p q => atK_old (hks p (hH.sub p q)) hp') hH)
  | succ k ih =>
    intro i s l hk hi hst hp hS hH hR
    have hlt : i < n := by omega
    refine codeAny_builtin PyProof.Rows.F.entry_set_update_loop ?_
    rw [Around.under_plainId PyProof.Rows.F.plain_set_update_loop _]
    show wpAny _ A.in1 (pyNext (.ref I) >>= _) _ _ s
    refine wpAny_bind (W.item i s _ _ hlt hst fun v s' hP hst' hm => ?_)
    obtain ⟨p, hpi, rfl⟩ := hval i v hP
    have hp' := old hm hp
    have pin := List.mem_of_getElem? hpi
    have sub : ∀ q ∈ l, q ∈ ks := fun q hq => List.mem_of_mem_take (hH.sub q hq)
    have hS' : TSet prog w s'.heap S l := hS.at (fun o e => hm.heap S _ hSw e) fun q hq => atK_old (hks q (sub q hq)) hp'
    have hx : AtK prog w s'.heap p.2 p.1 := atK_old (hks p pin) hp'
    have tk : ks.take (i + 1) = ks.take i ++ [p] := by rw [List.take_succ, hpi]; rfl
    show wpAny _ A.in1 (holding [Value.ref p.1] (setAdd S (.ref p.1)) >>= _) _ _ s'
    refine wpAny_bind (wpAny_holding ?_)
    unfold setAdd
    refine wpAny_holding ?_
    refine wpAny_bind (wpAny_pyHash_tuple hu hx ?_)
    have hl : l.length ≤ i := by have := hH.len; rw [List.length_take] at this; omega
    refine TSet.add (s := { s' with toks := s'.toks + (p.2.length + 1) }) hS' hx hu (by omega) fun b h' l' hsb hS2 c1 c2 => ?_
    have hH' : Held (ks.take (i + 1)) l' := by
      rw [tk]
      by_cases c : p.2 ∈ l.map Prod.snd
      · rw [c1 c]
        refine ⟨fun q hq => List.mem_append_left _ (hH.sub q hq), fun q hq => ?_, by have := hH.len; simp at this ⊢; omega, hH.nd⟩
        rcases List.mem_append.mp hq with hq | hq
        · exact hH.all q hq
        · rw [List.mem_singleton.mp hq]; exact c
      · have pm := c2 c
        refine ⟨fun q hq => ?_, fun q hq => ?_, by have := hH.len; have e := pm.length_eq; simp at this e ⊢; omega, hS2.nd⟩
        · rcases List.mem_cons.mp (pm.mem_iff.mp hq) with e | hq
          · rw [e]; exact List.mem_append_right _ List.mem_cons_self
          · exact List.mem_append_left _ (hH.sub q hq)
        · rw [(pm.map Prod.snd).mem_iff, List.map_cons]
          rcases List.mem_append.mp hq with hq | hq
          · exact List.mem_cons_of_mem _ (hH.all q hq)
          · rw [List.mem_singleton.mp hq]; exact List.mem_cons_self
    have hp2 : ∀ b o, h0.get? b = some o → h'.get? b = some o := fun b o e => (hsb.2 b (fun z => by rw [z, hS0] at e; cases e)).trans (hp' b o e)
    refine wpAny_pure ⟨plainId_quiet PyProof.Rows.F.plain_set_update_loop _, ih (i + 1) _ l' (by omega) hlt (W.frame _ s' _ _ hst' (Nat.le_add_right _ _) fun b hb o e => ?_) hp2 hS2 hH' fun s'' l2 hm'' hp'' hS'' h1 => ?_⟩
    · rw [hsb.2 b (fun h : b = S => hSf (by rw [← h]; exact hb))]; exact e
    · refine hR s'' l2 (Moved.trans W.gtrans ((hm.mono up).then_heap (Nat.le_add_right _ _) fun b o hb e => ?_) hm'') hp'' hS'' h1
      rw [hsb.2 b (fun h : b = S => hb (by rw [h]; exact List.mem_cons_self))]; exact e
end
section
variable {prog : Program} {w : World} {A : Around} {E : Value → Shared → Prop} {s : Shared}
theorem tset_new {h : Heap} {a : Addr} (ho : h.get? a = some { cls := .type "set", dict := none, data := .set #[] 0 (.fresh 0 0 (!w.params.followText "set-order")) }) : TSet prog w h a [] := by
  refine ⟨_, _, _, _, ⟨ho, ⟨rfl, rfl, rfl⟩, rfl, rfl, ⟨List.Pairwise.nil, rfl, rfl, .inl rfl, (fun x hx => nomatch hx), (fun i h j hi => by simp at hi)⟩, List.nodup_nil, (fun p hp => nomatch hp), ?_, ?_, ?_⟩, ?_⟩
  · show _ ∨ (!w.params.followText "set-order") = true
    cases w.params.followText "set-order"
    · exact .inr rfl
    · exact .inl rfl
  · show 0 ≤ 7; omega
  · show 0 < 64; omega
  · show 0 * 5 < 7 * 3; omega
theorem set_of_listK {a : Addr} {items : Array Value} {ks : List KA} {Q : Value → Shared → Prop} (hh : A.handled = none) (hl : s.heap.IsList a items) (hi : items.toList = ks.map fun p => Value.ref p.1) (hk : ∀ p ∈ ks, AtK prog w s.heap p.2 p.1) (few : ks.length < 63) (hu : A.units + 10 < cLine)
    (h : ∀ (h' : Heap) (tk : Nat) (l' : List KA), TSet prog w h' s.heap.objs.size l' → Held ks l' → (∀ b o, s.heap.get? b = some o → h'.get? b = some o) → Q (.ref s.heap.objs.size) { s with heap := h', toks := tk }) :
    wpAny (model prog w) A (call (.type "set") [.ref a]) Q E s := by
  obtain ⟨c, tl, hmro⟩ := PySem.F.called_set.mro
  have hmade := PySem.F.called_set.made
  have hsub := PySem.F.called_set.sub
  have h1 := PySem.F.called_set.notType
  have h2 := PySem.F.called_set.canCreate
  have hct := PySem.F.typeCall_set_1 (.ref a)
  refine wpAny_call (codeAny_of_tree ?_)
  show wpAny _ _ (callAny (.type "set") _) _ _ _
  refine wpAny_pure ⟨Code.quiet_builtin _ (by decide +kernel), codeAny_builtin PySem.F.entry_type_call ?_⟩
  rw [Around.under_plain (weight_type_call_type "set" [.ref a] []) rfl]
  repeat (any_goals (first | assumption | wp_step))
  refine codeAny_mono (code_set_led1 (.ref a) (E := E) (Q₁ := fun obj s₁ => obj = .ref s.heap.objs.size ∧ s₁ = { s with heap := s.heap.push { cls := .type "set", dict := none, data := .set #[] 0 (.fresh 0 0 (!w.params.followText "set-order")) } }) ⟨rfl, rfl⟩) fun r s₁ hr => ?_
  match r, hr with
  | .error e, hr => exact hr
  | .ok (.ret obj), hr =>
    obtain ⟨rfl, rfl⟩ := hr
    have hS0 : (s.heap.push { cls := .type "set", dict := none, data := .set #[] 0 (.fresh 0 0 (!w.params.followText "set-order")) }).get? s.heap.objs.size = some { cls := .type "set", dict := none, data := .set #[] 0 (.fresh 0 0 (!w.params.followText "set-order")) } := Heap.get?_push_size _ rfl
    have new := tset_new (prog := prog) hS0
    generalize hled : (!w.params.followText "set-order") = led at *
    have hS : (s.heap.push { cls := .type "set", dict := none, data := .set #[] 0 (.fresh 0 0 led) }).get? s.heap.objs.size = some { cls := .type "set", dict := none, data := .set #[] 0 (.fresh 0 0 led) } := Heap.get?_push_size _ rfl
    have hT : Shared.TypeIs { s with heap := s.heap.push { cls := .type "set", dict := none, data := .set #[] 0 (.fresh 0 0 led) } } (.ref s.heap.objs.size) "set" := ⟨_, hS, rfl⟩
    have hli := PySem.F.called_set.init.lookup
    have hbi := PySem.F.called_set.init.bind (.ref s.heap.objs.size)
    repeat (any_goals (first | assumption | wp_step))
    refine codeAny_mono (codeAny_call_builtin (R := wants (fun r s₂ => r = .none ∧ ∃ h' tk l', s₂ = { s with heap := h', toks := tk } ∧ TSet prog w h' s.heap.objs.size l' ∧ Held ks l' ∧
      (∀ b o, s.heap.get? b = some o → h'.get? b = some o)) E) PySem.F.called_set.init.plain PySem.F.entry_set_init (check_set_init_1 hT ?_)) fun r₂ s₂ hr₂ => ?_
    · obtain ⟨⟨ocls, odict, odata, oslots⟩, hol, hcl, nl, hdl⟩ := hl
      simp only at hcl hdl
      subst hcl; subst hdl
      have hol' : (s.heap.push { cls := .type "set", dict := none, data := .set #[] 0 (.fresh 0 0 led) }).get? a = some { cls := .type "list", dict := odict, data := .seq items nl, slots := oslots } := Heap.get?_push_of_some _ hol
      have hsls := PySem.F.sub_list_set
      have hslf := PySem.F.sub_list_frozenset
      have hne : (Value.type "list" == Value.type "dict") = false := by decide
      have hl1 : (s.heap.push { cls := .type "set", dict := none, data := .set #[] 0 (.fresh 0 0 led) }).IsList a items := ⟨_, hol', rfl, nl, rfl⟩
      unfold Builtin.«set.__init__» noKeywords Builtin.Frozenset.updateFrom
      generalize hPI : pyIter = PI
      wp_walk
      subst hPI
      refine wpAny_pyIter_list hl1 ?_
      refine wpAny_bind (wpAny_runValue ?_)
      have hlS : a < s.heap.objs.size := Heap.lt_size hol
      have hh3 : A.in1.in1.in1.handled = none := by simp [hh]
      have hneI : a ≠ (s.heap.push { cls := .type "set", dict := none, data := .set #[] 0 (.fresh 0 0 led) }).objs.size := by
        rw [Heap.size_push]; exact Nat.ne_of_lt (Nat.lt_succ_of_lt hlS)
      have hSf : s.heap.objs.size ∉ [(s.heap.push { cls := .type "set", dict := none, data := .set #[] 0 (.fresh 0 0 led) }).objs.size, a] := by
        rw [Heap.size_push]; simp only [List.mem_cons, List.not_mem_nil, or_false, not_or]
        exact ⟨Nat.ne_of_lt (Nat.lt_succ_self _), Nat.ne_of_gt hlS⟩
      have hsz : ks.length = items.size := by
        have := congrArg List.length hi
        rw [Array.length_toList, List.length_map] at this
        exact this.symm
      have hval : ∀ (i : Nat) (v : Value), items[i]? = some v → ∃ p, ks[i]? = some p ∧ v = .ref p.1 := fun i v hv => by
        rw [← Array.getElem?_toList, hi, List.getElem?_map] at hv
        obtain ⟨p, h1, h2⟩ := Option.map_eq_some_iff.mp hv
        exact ⟨p, h1, h2.symm⟩
      have n1 : s.heap.get? s.heap.objs.size = none := by
        cases e : s.heap.get? s.heap.objs.size with
        | none => rfl
        | some o => exact absurd (Heap.lt_size e) (Nat.lt_irrefl _)
      have n2 : s.heap.get? (s.heap.push { cls := .type "set", dict := none, data := .set #[] 0 (.fresh 0 0 led) }).objs.size = none := by
        rw [Heap.size_push]
        cases e : s.heap.get? (s.heap.objs.size + 1) with
        | none => rfl
        | some o => exact absurd (Heap.lt_size e) (Nat.not_lt.mpr (Nat.le_succ _))
      refine fillK ((Walks.list hh3 _ a hneI items).toS) s.heap.objs.size hSf ks hsz (by omega) (by show A.units + 1 + 1 + 1 < cLine; omega) hval s.heap hk n1 (fun b hb => ?wr0) (items.size - 0) 0 _ [] (by omega) (Nat.zero_le _) ⟨⟨_, Heap.get?_push_size _ rfl, rfl, rfl⟩, (hl1.push _)⟩ ?hp0 ?s0 ⟨(fun q hq => nomatch hq), (fun q hq => by simp at hq), by simp, List.nodup_nil⟩ ?sR
      case wr0 =>
        simp only [List.mem_cons, List.not_mem_nil, or_false] at hb
        subst hb
        exact n2
      case hp0 => exact fun b o e => Heap.get?_push_of_some _ (Heap.get?_push_of_some _ e)
      case s0 => exact new.at (fun o e => Heap.get?_push_of_some _ e) fun p hp => nomatch hp
      case sR =>
        intro s' l' hm hp' hS' hH
        obtain ⟨h', g', d', tk', os'⟩ := s'
        have eg : g' = s.gens := hm.gens
        have ed : d' = s.drawn := hm.drawn
        have eo : os' = s.os := hm.os
        subst eg; subst ed; subst eo
        show wpAny _ _ _ _ _ _
        refine wpAny_pure ?_
        show wpAny _ _ (ret Value.none) _ _ _
        exact wpAny_pure ⟨rfl, h', tk', l', rfl, hS', hH, hp'⟩
    · match r₂, hr₂ with
      | .error e, hr₂ => exact hr₂
      | .ok (.ret r), hr₂ =>
        obtain ⟨rfl, h', tk, l', rfl, hS', hH', hk'⟩ := hr₂
        repeat (any_goals (first | assumption | wp_step))
        exact h _ _ _ hS' hH' hk'
end
end DL
/-! sorted(set(xs)) of a list of tuples of ints and texts -/
namespace DL
open PySem L2 PyProof.Rows
open PySem.W (dataLt)
/-! ### plain -/
def ddk : List (List Key) → List (List Key)
  | [] => []
  | x :: r => if (r.any fun y => decide (y = x)) = true then ddk r else x :: ddk r
theorem any_memK {r : List (List Key)} {x : List Key} : (r.any fun y => decide (y = x)) = true ↔ x ∈ r := by
  rw [List.any_eq_true]
  constructor
  · rintro ⟨y, hy, e⟩; rw [← of_decide_eq_true e]; exact hy
  · intro h; exact ⟨x, h, by simp⟩
theorem ddk_mem : ∀ {xs : List (List Key)} {q : List Key}, q ∈ ddk xs ↔ q ∈ xs
  | [], q => by simp [ddk]
  | x :: r, q => by
    unfold ddk
    split
    · rename_i h
      rw [ddk_mem, List.mem_cons]
      exact ⟨.inr, fun z => z.elim (fun e => e ▸ any_memK.mp h) id⟩
    · rw [List.mem_cons, List.mem_cons, ddk_mem]
theorem ddk_nodup : ∀ (xs : List (List Key)), (ddk xs).Nodup
  | [] => List.Pairwise.nil
  | x :: r => by
    unfold ddk
    split
    · exact ddk_nodup r
    · rename_i h
      exact List.nodup_cons.mpr ⟨fun z => h (any_memK.mpr (ddk_mem.mp z)), ddk_nodup r⟩
def keysT : List PyData → Option (List (List Key))
  | [] => some []
  | .tuple ds :: r => (keysOf ds).bind fun k => (keysT r).map (k :: ·)
  | _ => none
/-- unlike ones stand before or behind one another -/
def totD (ds : List PyData) : Bool := ds.all fun a => ds.all fun b => PyData.eqv a b || dataLt a b || dataLt b a
def setOk (ks : List (List Key)) : Bool := decide (ks.length ≤ 60) && sortOk ((ddk ks).map keyD) && totD ((ddk ks).map keyD)
def gSortSetK : PyData → Option PyData
  | .list ds => match keysT ds with
    | some ks => if setOk ks = true then some (.list (dSort ((ddk ks).map keyD))) else none
    | none => none
  | _ => none
theorem sorted_same {R : PyData → PyData → Prop} (as : ∀ a b, R a b → R b a → False) : ∀ {A B : List PyData}, A.Perm B → A.Pairwise R → B.Pairwise R → A = B
  | [], B, hp, _, _ => hp.symm.eq_nil.symm
  | a :: A, [], hp, _, _ => hp.eq_nil
  | a :: A, b :: B, hp, h1, h2 => by
    have e : a = b := by
      rcases List.mem_cons.mp (hp.mem_iff.mp List.mem_cons_self : a ∈ b :: B) with e | ha
      · exact e
      · rcases List.mem_cons.mp (hp.mem_iff.mpr List.mem_cons_self : b ∈ a :: A) with e | hb
        · exact e.symm
        · exact (as a b ((List.pairwise_cons.mp h1).1 b hb) ((List.pairwise_cons.mp h2).1 a ha)).elim
    subst e
    rw [sorted_same as (List.Perm.cons_inv hp) (List.pairwise_cons.mp h1).2 (List.pairwise_cons.mp h2).2]
theorem dSort_same {A B : List PyData} (p : A.Perm B) (nd : A.Nodup) (tot : ∀ a ∈ A, ∀ b ∈ A, a ≠ b → dataLt a b = true ∨ dataLt b a = true) : dSort A = dSort B := by
  have T : PySem.W.TotalLe (PySem.W.dataLe (β := PyData) false id) := PySem.W.sortLe_total _ _ _
  have key : ∀ {C : List PyData}, C.Perm A → (dSort C).Pairwise fun a b => dataLt a b = true := fun {C} pc => by
    have h1 := List.pairwise_mergeSort (le := PySem.W.dataLe false id) (fun a b c => T.trans a b c) (fun a b => by have := T.total a b; simpa using this) C
    have hp := List.mergeSort_perm C (PySem.W.dataLe false id)
    have h2 : (C.mergeSort (PySem.W.dataLe false id)).Nodup := hp.nodup_iff.mpr (pc.nodup_iff.mpr nd)
    refine (h1.and h2).imp_of_mem fun {a b} ha hb hab => ?_
    have la := pc.mem_iff.mp (hp.mem_iff.mp ha)
    have lb := pc.mem_iff.mp (hp.mem_iff.mp hb)
    rcases tot a la b lb hab.2 with h | h
    · exact h
    · have := hab.1
      rw [PySem.W.dataLe_eq] at this
      have : dataLt b a = false := by simpa using this
      rw [h] at this; cases this
  refine sorted_same (R := fun a b => dataLt a b = true) (fun a b h1 h2 => ?_) ?_ (key (List.Perm.refl A)) (key p.symm)
  · have := dlt_trans h1 h2
    rw [dlt_irr] at this; cases this
  · exact (List.mergeSort_perm A _).trans (p.trans (List.mergeSort_perm B _).symm)
theorem eqv_kD : ∀ {a b : Key}, PyData.eqv (kD a) (kD b) = true → a = b
  | .inl i, .inl j, h => by simp [kD, PyData.eqv] at h; rw [h]
  | .inr x, .inr y, h => by simp [kD, PyData.eqv] at h; rw [h]
  | .inl i, .inr y, h => by simp [kD, PyData.eqv] at h
  | .inr x, .inl j, h => by simp [kD, PyData.eqv] at h
theorem eqvAll_kD : ∀ {a b : List Key}, PyData.eqvAll (a.map kD) (b.map kD) = true → a = b
  | [], [], _ => rfl
  | x :: a, y :: b, h => by
    simp only [List.map_cons, PyData.eqvAll, Bool.and_eq_true] at h
    rw [eqv_kD h.1, eqvAll_kD h.2]
  | [], _ :: _, h => by simp [PyData.eqvAll] at h
  | _ :: _, [], h => by simp [PyData.eqvAll] at h
theorem eqv_keyD {a b : List Key} (h : PyData.eqv (keyD a) (keyD b) = true) : a = b := by
  simp only [keyD, PyData.eqv] at h
  exact eqvAll_kD h
theorem perm_of_map {α β : Type} {f : α → β} : ∀ {vs ws : List β}, vs.Perm ws → ∀ {l : List α}, ws = l.map f → ∃ l2 : List α, l2.Perm l ∧ vs = l2.map f := by
  intro vs ws h
  induction h with
  | nil => intro l e; exact ⟨l, List.Perm.refl _, e⟩
  | cons x h ih =>
    intro l e
    cases l with
    | nil => cases e
    | cons y l =>
      rw [List.map_cons, List.cons.injEq] at e
      obtain ⟨l2, p, e2⟩ := ih e.2
      exact ⟨y :: l2, p.cons y, by rw [e.1, e2]; rfl⟩
  | swap x y l0 =>
    intro l e
    cases l with
    | nil => cases e
    | cons a l =>
      cases l with
      | nil => cases e
      | cons b l =>
        rw [List.map_cons, List.map_cons, List.cons.injEq, List.cons.injEq] at e
        exact ⟨b :: a :: l, List.Perm.swap _ _ _, by rw [e.1, e.2.1, e.2.2]; rfl⟩
  | trans _ _ ih1 ih2 =>
    intro l e
    obtain ⟨l2, p2, e2⟩ := ih2 e
    obtain ⟨l3, p3, e3⟩ := ih1 e2
    exact ⟨l3, p3.trans p2, e3⟩
theorem items_read {P : Program} {w : World} {h : Heap} {ks : List Key} {vs : List Value} (hi : PySem.ItemsAre (mixKind P w) ks vs) : ReadsAll h vs (ks.map kD) [] := by
  induction hi with
  | nil => exact .nil
  | @cons k v ks vs hk _ ih =>
    refine .cons (as := []) (bs := []) ?_ ih
    rcases keyIs_shape hk with ⟨i, t, rfl, rfl⟩ | ⟨x, t, rfl, rfl⟩
    · exact .int i t
    · exact .str x t
theorem atK_reads {P : Program} {w : World} {h : Heap} {k : List Key} {a : Addr} (x : AtK P w h k a) : Reads h (.ref a) (keyD k) [] := by
  obtain ⟨o, its, n, ho, hc, hd, hi⟩ := x
  exact .tuple ho hc hd (by simpa using items_read hi)
theorem each_list {α : Type} {R : Value → PyData → Prop} {f : α → Value} {g : α → PyData} : ∀ {l : List α}, (∀ x ∈ l, R (f x) (g x)) → W.EachIs R (l.map f) (l.map g)
  | [], _ => .nil
  | x :: l, h => .cons (h x List.mem_cons_self) (each_list fun y hy => h y (List.mem_cons_of_mem _ hy))
section
variable {P : Program} {w : World} {A : Around} {E : Value → Shared → Prop} {s : Shared}
theorem sorted_setK {K : PySem.W.Frag} {S : Hp} {a : Addr} {l ks : List KA} {Q : Value → Shared → Prop} (R : TSet P w s.heap a l) (hH : Held ks l) (hok : setOk (ks.map Prod.snd) = true) (hR : ∀ p ∈ ks, Rp K S (.ref p.1) (keyD p.2)) (hh : A.handled = none) (hu : A.units + 64 < cLine)
    (hQ : ∀ s' p (out : List Value) (c : Nat) (ys : List V), (∀ b o, s.heap.get? b = some o → s'.heap.get? b = some o) → s'.gens = s.gens → s'.os = s.os → s.heap.objs.size ≤ p →
      s'.heap.get? p = some (seqObj "list" out.toArray c) → Vals ys out → RpAll K S ys (dSort ((ddk (ks.map Prod.snd)).map keyD)) → ys.length ≤ 1000 → Q (.ref p) s') :
    wpAny (model P w) A (call (.builtin "sorted") [.ref a]) Q E s := by
  obtain ⟨o, es, ep, t, R, rm⟩ := R
  have hsz := rwK_size R.rows
  have few := R.few
  simp only [setOk, Bool.and_eq_true, decide_eq_true_eq] at hok
  obtain ⟨⟨ok1, ok2⟩, ok3⟩ := hok
  have hsb : es.size < scanBound := Nat.lt_of_lt_of_le (by omega : es.size < 64) (by decide)
  refine Calls.call_function_entry kind_sorted plain_sorted entry_sorted (args_sorted1 _) ?_
  unfold Builtin.«sorted»
  refine wpAny_bind (m := checkCount "sorted" 1 1 _) (wpAny_pure ?_)
  refine wpAny_bind (collect_set (A := A.in1) hh ⟨_, R.at_, R.ex.1, R.dat⟩ R.fit hsb R.tab.ris R.ld fun s1 vs k1 hz g1 o1 pm => ?_)
  have ev : es.toList.map (·.2) = l.map fun p => Value.ref p.1 := by rw [R.rows, rwK, List.map_map]; rfl
  obtain ⟨l2, p2, rfl⟩ := perm_of_map pm ev
  have hl2 : l2.length ≤ 63 := by rw [p2.length_eq]; omega
  have sub : ∀ p ∈ l2, p ∈ ks := fun p hp => hH.sub p (p2.mem_iff.mp hp)
  have nd2 : (l2.map Prod.snd).Nodup := (p2.map _).nodup_iff.mpr R.nd
  have pk : (l2.map Prod.snd).Perm (ddk (ks.map Prod.snd)) := by
    refine (List.perm_ext_iff_of_nodup nd2 (ddk_nodup _)).mpr fun q => ?_
    rw [ddk_mem]
    constructor
    · intro h
      obtain ⟨p, hp, rfl⟩ := List.mem_map.mp h
      exact List.mem_map.mpr ⟨p, sub p hp, rfl⟩
    · intro h
      obtain ⟨p, hp, rfl⟩ := List.mem_map.mp h
      exact (p2.map Prod.snd).mem_iff.mpr (hH.all p hp)
  have pd : (l2.map fun p => keyD p.2).Perm ((ddk (ks.map Prod.snd)).map keyD) := by
    have := pk.map keyD
    rwa [List.map_map] at this
  have ndd : (l2.map fun p => keyD p.2).Nodup := by
    have : l2.map (fun p => keyD p.2) = (l2.map Prod.snd).map keyD := by rw [List.map_map]; rfl
    rw [this]
    exact List.Pairwise.map _ (fun a b h e => h (keyD_inj e)) nd2
  have same : dSort (l2.map fun p => keyD p.2) = dSort ((ddk (ks.map Prod.snd)).map keyD) := dSort_same pd ndd fun x hx y hy hne => by
    have := List.all_eq_true.mp (List.all_eq_true.mp ok3 x (pd.mem_iff.mp hx)) y (pd.mem_iff.mp hy)
    simp only [Bool.or_eq_true] at this
    rcases this with (h | h) | h
    · obtain ⟨p, _, rfl⟩ := List.mem_map.mp hx
      obtain ⟨q, _, rfl⟩ := List.mem_map.mp hy
      exact absurd (by rw [eqv_keyD h]) hne
    · exact .inl h
    · exact .inr h
  simp only [sortOk, Bool.and_eq_true, likeAll, decide_eq_true_eq] at ok2
  obtain ⟨⟨⟨⟨s1', s2'⟩, s3'⟩, s4'⟩, s5'⟩ := ok2
  have hL : (l2.map fun p => Value.ref p.1).length ≤ sizeLine := by rw [List.length_map]; exact le_line (by omega)
  refine wpAny_bind (wpAny_newList ?_ hL)
  have hoL : (s1.heap.push (seqObj "list" (l2.map fun p => Value.ref p.1).toArray 0)).get? s1.heap.objs.size = some (seqObj "list" (l2.map fun p => Value.ref p.1).toArray 0) := Heap.get?_push_size _ rfl
  have hE : W.EachIs (IsD K S) (l2.map fun p => Value.ref p.1) (l2.map fun p => keyD p.2) := each_list fun p hp => ⟨.ref p.1, rfl, hR p (sub p hp)⟩
  refine wpAny_bind (wpAny_holding (PySem.W.list_sort_data (s := { s1 with heap := s1.heap.push (seqObj "list" (l2.map fun p => Value.ref p.1).toArray 0) }) (enc := id) (R := IsD K S) hoL hE (each_list fun p hp => ⟨[], ?_, by simp⟩) ?_ ?_ (by rw [List.length_map]; exact le_line (by omega)) (fun b hb => ?_) fun out ho' hout => ?_))
  · have := atK_reads (R.tup p (p2.mem_iff.mp hp))
    exact PyProof.Rows.Reads.keeps (fun b o e => Heap.get?_push_of_some _ (k1 b o e)) this
  · rw [List.map_id]
    intro d hd d' hd'
    exact List.all_eq_true.mp (List.all_eq_true.mp s1' d (pd.mem_iff.mp hd)) d' (pd.mem_iff.mp hd')
  · rw [List.map_id]
    refine .inl fun d hd => ?_
    have hd' := pd.mem_iff.mp hd
    rcases (Bool.or_eq_true _ _).mp s2' with h | h
    · have := List.all_eq_true.mp h d hd'
      unfold tup1 at this
      split at this
      · exact ⟨_, _, rfl⟩
      · cases this
    · have := List.all_eq_true.mp h d hd'
      obtain ⟨p, _, rfl⟩ := List.mem_map.mp hd
      cases this
  · have := List.all_eq_true.mp s4' b (pd.mem_iff.mp hb)
    rw [decide_eq_true_eq] at this
    show A.units + 1 + 1 + b.depth < cLine
    omega
  · obtain ⟨c, hc⟩ := sortedHeap_at (vs := l2.map fun p => Value.ref p.1) (out := out.toArray) hoL
    obtain ⟨ys, y1, y2⟩ := isD_each hout
    refine wpAny_pure ⟨_, rfl, hQ _ s1.heap.objs.size out c ys (fun b u e => ?_) g1 o1 hz hc y1 (by rw [← same]; exact y2) ?_⟩
    · have q := k1 b u e
      have hlt := Heap.lt_size q
      show (sortedHeap (s1.heap.push (seqObj "list" (l2.map fun p => Value.ref p.1).toArray 0)) s1.heap.objs.size (l2.map fun p => Value.ref p.1) out.toArray).get? b = some u
      rw [sortedHeap_old (Nat.ne_of_lt hlt) (by rw [size_push']; exact Nat.lt_succ_of_lt hlt)]
      exact Heap.get?_push_of_some _ q
    · rw [y1.length, ho', List.length_map]; omega
end
end DL
/-! sorted(set(xs)) of a list of tuples: the rule -/
namespace DL
open PySem L2 PyProof.Rows
section
variable {X : Cx} {W : WX}
theorem vals_keys {K : PySem.W.Frag} {S : Hp} : ∀ {vs : List V} {k : List Key}, RpAll K S vs (k.map kD) → vs = k.map kV
  | _, [], h => by cases h; rfl
  | _, x :: k, h => by
    rw [List.map_cons] at h
    cases h with
    | cons h1 h2 => rw [List.map_cons, h1.key, vals_keys h2]
theorem kas_of {pins : List (Addr × Obj)} {σ : L2.St} {H S : Hp} {s : Shared} (I : Inv X pins σ H s) (ex : Ex S H) : ∀ {ds : List PyData} {xs : List V} {ks : List (List Key)}, RpAll X.K S xs ds → keysT ds = some ks →
    ∃ l : List KA, xs = l.map (fun p => V.ref p.1) ∧ l.map Prod.snd = ks ∧ (∀ p ∈ l, Rp X.K S (.ref p.1) (keyD p.2)) ∧ ∀ p ∈ l, AtK X.prog X.w s.heap p.2 p.1
  | [], _, _, .nil, h => by cases h; exact ⟨[], rfl, rfl, (fun p hp => nomatch hp), fun p hp => nomatch hp⟩
  | d :: ds, _, ks, .cons r rs, h => by
    unfold keysT at h
    split at h
    · rename_i e; cases e
    · rename_i ds' r' e
      cases e
      obtain ⟨k, h1, h2⟩ := Option.bind_eq_some_iff.mp h
      obtain ⟨ks', h3, rfl⟩ := Option.map_eq_some_iff.mp h2
      obtain ⟨l, rfl, rfl, g1, g2⟩ := kas_of I ex rs h3
      have ek := keysOf_inv h1
      subst ek
      have r0 := r
      obtain ⟨a, ys, rfl, t1, t2⟩ := r.tup_inv
      have ev := vals_keys t2
      subst ev
      obtain ⟨its, rv, ⟨o, o1, o2, n, o3⟩, _⟩ := I.tuple (ex.t t1)
      refine ⟨(a, k) :: l, rfl, rfl, fun p hp => ?_, fun p hp => ?_⟩
      · rcases List.mem_cons.mp hp with rfl | hp
        · exact r0
        · exact g1 p hp
      · rcases List.mem_cons.mp hp with rfl | hp
        · exact ⟨o, its.toArray, n, o1, o2, o3, by simpa using items_are rv⟩
        · exact g2 p hp
    · cases h
def tSortK (K : PySem.W.Frag) (ta : TE) : TE := fun σ H Q => ta σ H fun x H1 => ∃ (a : Addr) (xs : List V) (ds : List PyData) (ks : List (List Key)) (S : Hp), x = .ref a ∧ Ex S H1 ∧ SqL K H1 a xs ∧ RpAll K S xs ds ∧ keysT ds = some ks ∧ setOk ks = true ∧
  ∀ ys p, RpAll K S ys (dSort ((ddk ks).map keyD)) → H1 p = none → Q (.ref p) (upd H1 p (.lst ys))
theorem pe_sortK {a : Expr} {ta : TE} {p p2 q pos : Pos} (hc : X.calm = true) (hu : X.A.units + 64 < cLine) (hg : Gl X "sorted") (hm : X.mg "sorted" = none) (hg2 : Gl X "set") (hm2 : X.mg "set" = none) (ha : PE X a ta)
    (na : starEach [a] X.env = (false, eval a X.env) :: starEach [] X.env := by rfl) : PE X (.Call (.Name "sorted" p) [.Call (.Name "set" p2) [a] [] q] [] pos) (tSortK X.K ta) := by
  refine ⟨fun pins s σ H Q I h => ?_⟩
  refine Call_ (ld_blt I hg hm boot_sorted' ?_)
  refine PyProof.Rows.callWith_builtin1 (PyProof.Rows.args_cons ?_ rfl) rfl rfl
  refine Call_ (ld_blt I hg2 hm2 boot_set ?_)
  refine PyProof.Rows.callWith_type1 (PyProof.Rows.args_cons (thn (ha.run pins s σ H _ I h) fun v s1 ⟨x, H1, I1, r1, q1⟩ => PyProof.Rows.args_nil ?_) na) na rfl
  obtain ⟨a', xs, ds, ks, S, rfl, ex, hq, rx, hk, hok, q1⟩ := q1
  cases r1
  obtain ⟨l, rfl, rfl, g1, g2⟩ := kas_of I1 ex rx hk
  obtain ⟨its, rv, pl, hz⟩ := I1.list hq
  have ei : its = l.map fun p => Value.ref p.1 := by
    have hh : l.map (fun p => V.ref p.1) = (l.map Prod.fst).map V.ref := by rw [List.map_map]; rfl
    rw [hh] at rv
    rw [refs_at rv, List.map_map]; rfl
  have few : l.length ≤ 60 := by
    have := hok
    simp only [setOk, Bool.and_eq_true, decide_eq_true_eq, List.length_map] at this
    exact this.1.1
  refine set_of_listK (I1.ok.hd hc) pl.isList (by simpa using ei) g2 (by omega) (by omega) fun h' tk l' hS hH hkp => PyProof.Rows.args_nil ?_
  have I2 : Inv X pins σ H1 { s1 with heap := h', toks := tk } := I1.kept hkp
  refine sorted_setK (s := { s1 with heap := h', toks := tk }) hS hH hok g1 (I1.ok.hd hc) hu fun s' p out c ys k g o hp hgp hv hr hlen => ?_
  have hn : H1 p = none := I2.hok.fresh hp
  have J : Inv X pins σ (upd H1 p (.lst ys)) { s1 with heap := s'.heap, gens := s'.gens, drawn := s'.drawn, toks := s'.toks } :=
    Inv.call (s := { s1 with heap := h', toks := tk }) (ch := []) I2 (Un.laid k hp hn) (I2.hok.laid k hp ⟨le_line hlen, out, c, hv, hgp⟩) (by rw [g]; exact I2.bare) (fun _ z => nomatch z)
  have e : s' = { s1 with heap := s'.heap, gens := s'.gens, drawn := s'.drawn, toks := s'.toks } := by
    cases s'
    cases s1
    cases o
    rfl
  rw [e]
  exact ⟨.ref p, _, J, rfl, q1 ys p hr hn⟩
theorem de_sortSetK {a : Expr} {f : M PyData} {p p2 q pos : Pos} (hc : X.calm = true) (hu : X.A.units + 64 < cLine) (hm : X.mg "sorted" = none) (hm2 : X.mg "set" = none) (ha : DE X W a f) (hg : Gl X "sorted" := by rfl) (hg2 : Gl X "set" := by rfl)
    (na : starEach [a] X.env = (false, eval a X.env) :: starEach [] X.env := by rfl) : DE X W (.Call (.Name "sorted" p) [.Call (.Name "set" p2) [a] [] q] [] pos) (f >>= fun d => M.lift (gSortSetK d)) := by
  refine PE_mono (pe_sortK hc hu hg hm hg2 hm2 ha na) fun σ H Q ⟨F, P, S, env, rel, post⟩ => ?_
  refine ⟨F, P, S, env, rel, Post.step post fun d e p v S1 H1 rel1 ex1 rp1 => ?_⟩
  obtain ⟨dz, ez, qz⟩ := p.lift
  unfold gSortSetK at ez
  split at ez
  · split at ez
    · split at ez
      · cases ez
        rename_i ds _ ks hks hok
        obtain ⟨a, xs, rfl, g1, r1⟩ := rp1.lst_inv
        refine ⟨a, xs, ds, ks, S1, rfl, rel1.sh, rel1.sh.l (SqL.of g1), r1, hks, hok, fun ys p hr hp => ?_⟩
        have gr := Grow.new (K := X.K) (o := .lst ys) rel1.sh hp
        exact qz (.ref p) _ _ (rel1.grow gr) (ex1.trans gr.ss) (.lst upd_same (hr.mono gr.ss))
      · cases ez
    · cases ez
  · cases ez
end
end DL
namespace Lw
open PySem L2 DL
def c_LETTERS : PyData := (.str "abcdefghijklmnopqrstuvwxyz")
def c_FIGURES : PyData := (.str "0123456789")
def c_MOST_SIGNS : PyData := (.int 8)
def c_DEEDS : PyData := (.tuple [(.str "see"), (.str "add"), (.str "change"), (.str "remove")])
def c_ALL : PyData := (.str "all")
def c_KNOWN : PyData := (.str "known")
def c_OWN : PyData := (.str "own")
def c_ROLE : PyData := (.str "role")
def c_MOST_RULES : PyData := (.int 12)
def c_MOST_PEOPLE : PyData := (.int 6)
def b_is_made_of_C1 : M PyData :=
  ((M.get 3) >>= fun x => (M.get 1) >>= fun y => M.lift (gIn x y))
def b_is_made_of : M Fl :=
  ((vAnd ((M.get 0) >>= fun d => pure (.bool (isStr d))) (vAnd (mChain (pure (.int 1)) (((M.get 0) >>= fun d => (pure []) >>= fun ds => pure (d :: ds)) >>= fun ds => M.lift (gLen ds)) (M.get 2) gLe gLe) (((((M.get 0) >>= fun d => M.lift (items d)) >>= fun ds => mLC [3] (.nm 3) (pure true) b_is_made_of_C1 ds) >>= fun d => (pure []) >>= fun ds => pure (d :: ds)) >>= fun ds => M.lift (gAll ds)))) >>= fun d => pure (.rt d))
def m_is_made_of : List PyData → Res PyData := runA 3 4 b_is_made_of
def b_is_name : M Fl :=
  ((((M.get 0) >>= fun d => ((pure c_LETTERS) >>= fun d => ((pure c_MOST_SIGNS) >>= fun d => (pure []) >>= fun ds => pure (d :: ds)) >>= fun ds => pure (d :: ds)) >>= fun ds => pure (d :: ds)) >>= fun ds => M.ofRes (m_is_made_of ds)) >>= fun d => pure (.rt d))
def m_is_name : List PyData → Res PyData := runA 1 1 b_is_name
def b_is_word : M Fl :=
  ((((M.get 0) >>= fun d => ((((pure c_LETTERS) >>= fun x => (pure c_FIGURES) >>= fun y => M.lift (gAdd x y)) >>= fun x => (pure (.str "-")) >>= fun y => M.lift (gAdd x y)) >>= fun d => ((pure c_MOST_SIGNS) >>= fun d => (pure []) >>= fun ds => pure (d :: ds)) >>= fun ds => pure (d :: ds)) >>= fun ds => pure (d :: ds)) >>= fun ds => M.ofRes (m_is_made_of ds)) >>= fun d => pure (.rt d))
def m_is_word : List PyData → Res PyData := runA 1 1 b_is_word
def b_is_shaped : M Fl :=
  ((vAnd ((M.get 0) >>= fun d => pure (.bool (isTuple d))) ((((M.get 0) >>= fun d => (pure []) >>= fun ds => pure (d :: ds)) >>= fun ds => M.lift (gLen ds)) >>= fun x => (M.get 1) >>= fun y => M.lift (gEq x y))) >>= fun d => pure (.rt d))
def m_is_shaped : List PyData → Res PyData := runA 2 2 b_is_shaped
def b_are_unlike : M Fl :=
  ((((M.get 0) >>= fun d => M.lift (gLenSet d)) >>= fun x => (((M.get 0) >>= fun d => (pure []) >>= fun ds => pure (d :: ds)) >>= fun ds => M.lift (gLen ds)) >>= fun y => M.lift (gEq x y)) >>= fun d => pure (.rt d))
def m_are_unlike : List PyData → Res PyData := runA 1 1 b_are_unlike
def b_are_rising_C1 : M PyData :=
  ((M.get 1) >>= fun x => (M.get 2) >>= fun y => M.lift (gLtA x y))
def b_are_rising : M Fl :=
  (((((((M.get 0) >>= fun d => (((M.get 0) >>= fun x => ((pure (.int 1)) >>= fun d => M.lift (asI d) >>= fun i => pure (some i)) >>= fun l => (pure none) >>= fun h => M.lift (gSl x l h)) >>= fun d => (pure []) >>= fun ds => pure (d :: ds)) >>= fun ds => pure (d :: ds)) >>= fun ds => M.lift (gZip ds)) >>= fun ds => mLC [1, 2] (.tp [(.nm 1), (.nm 2)]) (pure true) b_are_rising_C1 ds) >>= fun d => (pure []) >>= fun ds => pure (d :: ds)) >>= fun ds => M.lift (gAll ds)) >>= fun d => pure (.rt d))
def m_are_rising : List PyData → Res PyData := runA 1 3 b_are_rising
def b_is_owner : M Fl :=
  ((vAnd ((M.get 0) >>= fun d => pure (.bool (isStr d))) (vOr ((M.get 0) >>= fun x => (pure (.str "")) >>= fun y => M.lift (gEq x y)) (((M.get 0) >>= fun d => (pure []) >>= fun ds => pure (d :: ds)) >>= fun ds => M.ofRes (m_is_name ds)))) >>= fun d => pure (.rt d))
def m_is_owner : List PyData → Res PyData := runA 1 1 b_is_owner
def b_is_who : M Fl :=
  (mSeq ((((M.get 0) >>= fun d => pure (.bool (isStr d))) >>= fun d => M.lift (asB d)) >>= fun x => if x = true then (((M.get 0) >>= fun x => (((pure c_ALL) >>= fun d => ((pure c_KNOWN) >>= fun d => ((pure c_OWN) >>= fun d => (pure []) >>= fun ds => pure (d :: ds)) >>= fun ds => pure (d :: ds)) >>= fun ds => pure (d :: ds)) >>= fun ds => M.lift (mkTup ds)) >>= fun y => M.lift (gInB x y)) >>= fun d => pure (.rt d)) else (pure .nx))
      ((vAnd (((M.get 0) >>= fun d => ((pure (.int 2)) >>= fun d => (pure []) >>= fun ds => pure (d :: ds)) >>= fun ds => pure (d :: ds)) >>= fun ds => M.ofRes (m_is_shaped ds)) (vAnd (((M.get 0) >>= fun x => (pure (.int 0)) >>= fun y => M.lift (gIx x y)) >>= fun d => pure (.bool (isStr d))) (vAnd (((M.get 0) >>= fun x => (pure (.int 0)) >>= fun y => M.lift (gIx x y)) >>= fun x => (pure c_ROLE) >>= fun y => M.lift (gEq x y)) ((((M.get 0) >>= fun x => (pure (.int 1)) >>= fun y => M.lift (gIx x y)) >>= fun d => (pure []) >>= fun ds => pure (d :: ds)) >>= fun ds => M.ofRes (m_is_name ds))))) >>= fun d => pure (.rt d)))
def m_is_who : List PyData → Res PyData := runA 1 1 b_is_who
def b_is_rights_deed : M Fl :=
  ((vAnd ((M.get 0) >>= fun d => pure (.bool (isStr d))) ((M.get 0) >>= fun x => (pure c_DEEDS) >>= fun y => M.lift (gIn x y))) >>= fun d => pure (.rt d))
def m_is_rights_deed : List PyData → Res PyData := runA 1 1 b_is_rights_deed
def b_is_rule : M Fl :=
  (mSeq ((mOr (((((M.get 0) >>= fun d => ((pure (.int 4)) >>= fun d => (pure []) >>= fun ds => pure (d :: ds)) >>= fun ds => pure (d :: ds)) >>= fun ds => M.ofRes (m_is_shaped ds)) >>= fun d => M.lift (asB d)) >>= fun b => pure (!b)) (mOr ((((((M.get 0) >>= fun x => (pure (.int 0)) >>= fun y => M.lift (gIx x y)) >>= fun d => (pure []) >>= fun ds => pure (d :: ds)) >>= fun ds => M.ofRes (m_is_who ds)) >>= fun d => M.lift (asB d)) >>= fun b => pure (!b)) ((((((M.get 0) >>= fun x => (pure (.int 1)) >>= fun y => M.lift (gIx x y)) >>= fun d => (pure []) >>= fun ds => pure (d :: ds)) >>= fun ds => M.ofRes (m_is_rights_deed ds)) >>= fun d => M.lift (asB d)) >>= fun b => pure (!b)))) >>= fun x => if x = true then ((pure (.bool false)) >>= fun d => pure (.rt d)) else (pure .nx))
      ((vAnd ((((M.get 0) >>= fun x => (pure (.int 2)) >>= fun y => M.lift (gIx x y)) >>= fun d => (pure []) >>= fun ds => pure (d :: ds)) >>= fun ds => M.ofRes (m_is_name ds)) ((((M.get 0) >>= fun x => (pure (.int 3)) >>= fun y => M.lift (gIx x y)) >>= fun d => (pure []) >>= fun ds => pure (d :: ds)) >>= fun ds => M.ofRes (m_is_owner ds))) >>= fun d => pure (.rt d)))
def m_is_rule : List PyData → Res PyData := runA 1 1 b_is_rule
def b_are_rules_C1 : M PyData :=
  (((M.get 1) >>= fun d => (pure []) >>= fun ds => pure (d :: ds)) >>= fun ds => M.ofRes (m_is_rule ds))
def b_are_rules : M Fl :=
  ((vAnd ((M.get 0) >>= fun d => pure (.bool (isTuple d))) (vAnd ((((M.get 0) >>= fun d => (pure []) >>= fun ds => pure (d :: ds)) >>= fun ds => M.lift (gLen ds)) >>= fun x => (pure c_MOST_RULES) >>= fun y => M.lift (gLe x y)) (((((M.get 0) >>= fun d => M.lift (items d)) >>= fun ds => mLC [1] (.nm 1) (pure true) b_are_rules_C1 ds) >>= fun d => (pure []) >>= fun ds => pure (d :: ds)) >>= fun ds => M.lift (gAll ds)))) >>= fun d => pure (.rt d))
def m_are_rules : List PyData → Res PyData := runA 1 2 b_are_rules
def b_need_rules : M Fl :=
  ((((((M.get 0) >>= fun d => (pure []) >>= fun ds => pure (d :: ds)) >>= fun ds => M.ofRes (m_are_rules ds)) >>= fun d => M.lift (asB d)) >>= fun b => pure (!b)) >>= fun x => if x = true then (M.raise ⟨"NoRules", none⟩) else (pure .nx))
def m_need_rules : List PyData → Res PyData := runA 1 1 b_need_rules
def b_are_roles_C1 : M PyData :=
  (((M.get 1) >>= fun d => (pure []) >>= fun ds => pure (d :: ds)) >>= fun ds => M.ofRes (m_is_name ds))
def b_are_roles : M Fl :=
  ((vAnd ((M.get 0) >>= fun d => pure (.bool (isTuple d))) (vAnd (((((M.get 0) >>= fun d => M.lift (items d)) >>= fun ds => mLC [1] (.nm 1) (pure true) b_are_roles_C1 ds) >>= fun d => (pure []) >>= fun ds => pure (d :: ds)) >>= fun ds => M.lift (gAll ds)) (((M.get 0) >>= fun d => (pure []) >>= fun ds => pure (d :: ds)) >>= fun ds => M.ofRes (m_are_rising ds)))) >>= fun d => pure (.rt d))
def m_are_roles : List PyData → Res PyData := runA 1 2 b_are_roles
def b_is_for : M Fl :=
  (mSeq ((((M.get 0) >>= fun x => (pure c_ALL) >>= fun y => M.lift (gEq x y)) >>= fun d => M.lift (asB d)) >>= fun x => if x = true then ((pure (.bool true)) >>= fun d => pure (.rt d)) else (pure .nx))
      (mSeq ((((M.get 1) >>= fun x => (pure .none) >>= fun y => M.lift (gIsN x y)) >>= fun d => M.lift (asB d)) >>= fun x => if x = true then ((pure (.bool false)) >>= fun d => pure (.rt d)) else (pure .nx))
      (mSeq ((((M.get 0) >>= fun x => (pure c_KNOWN) >>= fun y => M.lift (gEq x y)) >>= fun d => M.lift (asB d)) >>= fun x => if x = true then ((pure (.bool true)) >>= fun d => pure (.rt d)) else (pure .nx))
      (((((M.get 0) >>= fun x => (pure c_OWN) >>= fun y => M.lift (gEq x y)) >>= fun d => M.lift (asB d)) >>= fun x => if x = true then (((M.get 1) >>= fun x => (pure (.int 0)) >>= fun y => M.lift (gIx x y)) >>= fun x => (M.get 2) >>= fun y => M.lift (gEq x y)) else (((M.get 0) >>= fun x => (pure (.int 1)) >>= fun y => M.lift (gIx x y)) >>= fun x => ((M.get 1) >>= fun x => (pure (.int 1)) >>= fun y => M.lift (gIx x y)) >>= fun y => M.lift (gIn x y))) >>= fun d => pure (.rt d)))))
def m_is_for : List PyData → Res PyData := runA 3 3 b_is_for
def b_let_by_L1 : M Fl :=
  ((mAnd (((((M.get 8) >>= fun d => ((M.get 9) >>= fun d => (pure []) >>= fun ds => pure (d :: ds)) >>= fun ds => pure (d :: ds)) >>= fun ds => M.lift (mkTup ds)) >>= fun x => (((M.get 2) >>= fun d => ((M.get 3) >>= fun d => (pure []) >>= fun ds => pure (d :: ds)) >>= fun ds => pure (d :: ds)) >>= fun ds => M.lift (mkTup ds)) >>= fun y => M.lift (gEq x y)) >>= fun d => M.lift (asB d)) (mAnd (((M.get 10) >>= fun x => (((pure (.str "")) >>= fun d => ((M.get 4) >>= fun d => (pure []) >>= fun ds => pure (d :: ds)) >>= fun ds => pure (d :: ds)) >>= fun ds => M.lift (mkTup ds)) >>= fun y => M.lift (gInB x y)) >>= fun d => M.lift (asB d)) ((((M.get 7) >>= fun d => ((M.get 1) >>= fun d => ((M.get 5) >>= fun d => (pure []) >>= fun ds => pure (d :: ds)) >>= fun ds => pure (d :: ds)) >>= fun ds => pure (d :: ds)) >>= fun ds => M.ofRes (m_is_for ds)) >>= fun d => M.lift (asB d)))) >>= fun x => if x = true then ((M.get 6) >>= fun d => pure (.rt d)) else (pure .nx))
def b_let_by : M Fl :=
  (mSeq ((((M.get 0) >>= fun d => (pure []) >>= fun ds => pure (d :: ds)) >>= fun ds => M.lift (gEnum ds)) >>= fun ds => forM (.tp [(.nm 6), (.tp [(.nm 7), (.nm 8), (.nm 9), (.nm 10)])]) b_let_by_L1 ds)
      ((pure .none) >>= fun d => pure (.rt d)))
def m_let_by : List PyData → Res PyData := runA 6 11 b_let_by
def b_is_person : M Fl :=
  ((vAnd (((M.get 0) >>= fun d => ((pure (.int 3)) >>= fun d => (pure []) >>= fun ds => pure (d :: ds)) >>= fun ds => pure (d :: ds)) >>= fun ds => M.ofRes (m_is_shaped ds)) (vAnd ((((M.get 0) >>= fun x => (pure (.int 0)) >>= fun y => M.lift (gIx x y)) >>= fun d => (pure []) >>= fun ds => pure (d :: ds)) >>= fun ds => M.ofRes (m_is_name ds)) (vAnd ((((M.get 0) >>= fun x => (pure (.int 1)) >>= fun y => M.lift (gIx x y)) >>= fun d => (pure []) >>= fun ds => pure (d :: ds)) >>= fun ds => M.ofRes (m_is_word ds)) ((((M.get 0) >>= fun x => (pure (.int 2)) >>= fun y => M.lift (gIx x y)) >>= fun d => (pure []) >>= fun ds => pure (d :: ds)) >>= fun ds => M.ofRes (m_are_roles ds))))) >>= fun d => pure (.rt d))
def m_is_person : List PyData → Res PyData := runA 1 1 b_is_person
def b_are_people_C1 : M PyData :=
  (((M.get 1) >>= fun d => (pure []) >>= fun ds => pure (d :: ds)) >>= fun ds => M.ofRes (m_is_person ds))
def b_are_people_C2 : M PyData :=
  (M.get 2)
def b_are_people : M Fl :=
  (mSeq ((mOr ((((M.get 0) >>= fun d => pure (.bool (isTuple d))) >>= fun d => M.lift (asB d)) >>= fun b => pure (!b)) (mOr (((((M.get 0) >>= fun d => (pure []) >>= fun ds => pure (d :: ds)) >>= fun ds => M.lift (gLen ds)) >>= fun x => (pure c_MOST_PEOPLE) >>= fun y => M.lift (gGt x y)) >>= fun d => M.lift (asB d)) (((((((M.get 0) >>= fun d => M.lift (items d)) >>= fun ds => mLC [1] (.nm 1) (pure true) b_are_people_C1 ds) >>= fun d => (pure []) >>= fun ds => pure (d :: ds)) >>= fun ds => M.lift (gAll ds)) >>= fun d => M.lift (asB d)) >>= fun b => pure (!b)))) >>= fun x => if x = true then ((pure (.bool false)) >>= fun d => pure (.rt d)) else (pure .nx))
      ((((((M.get 0) >>= fun d => M.lift (items d)) >>= fun ds => mLC [2, 3, 4] (.tp [(.nm 2), (.nm 3), (.nm 4)]) (pure true) b_are_people_C2 ds) >>= fun d => (pure []) >>= fun ds => pure (d :: ds)) >>= fun ds => M.ofRes (m_are_unlike ds)) >>= fun d => pure (.rt d)))
def m_are_people : List PyData → Res PyData := runA 1 5 b_are_people
def b_nobody_L1 : M Fl :=
  (M.ownL 2 >>= fun _ => (((((((M.get 3) >>= fun d => ((M.get 5) >>= fun d => (pure []) >>= fun ds => pure (d :: ds)) >>= fun ds => pure (d :: ds)) >>= fun ds => M.lift (mkTup ds)) >>= fun d => ((pure (.str "")) >>= fun d => (pure []) >>= fun ds => pure (d :: ds)) >>= fun ds => pure (d :: ds)) >>= fun ds => M.lift (mkTup ds)) >>= fun d => ((((((M.get 3) >>= fun d => ((M.get 5) >>= fun d => (pure []) >>= fun ds => pure (d :: ds)) >>= fun ds => pure (d :: ds)) >>= fun ds => M.lift (mkTup ds)) >>= fun d => ((M.get 3) >>= fun d => (pure []) >>= fun ds => pure (d :: ds)) >>= fun ds => pure (d :: ds)) >>= fun ds => M.lift (mkTup ds)) >>= fun d => (pure []) >>= fun ds => pure (d :: ds)) >>= fun ds => pure (d :: ds)) >>= fun ds => M.lift (mkLst ds)) >>= fun d => M.ext 2 d >>= fun _ => pure .nx)
def b_nobody_C1 : M PyData :=
  ((((M.get 0) >>= fun d => ((M.get 12) >>= fun d => ((M.get 9) >>= fun d => ((M.get 10) >>= fun d => ((M.get 11) >>= fun d => ((M.get 13) >>= fun d => (pure []) >>= fun ds => pure (d :: ds)) >>= fun ds => pure (d :: ds)) >>= fun ds => pure (d :: ds)) >>= fun ds => pure (d :: ds)) >>= fun ds => pure (d :: ds)) >>= fun ds => pure (d :: ds)) >>= fun ds => M.ofRes (m_let_by ds)) >>= fun x => (M.get 7) >>= fun y => M.lift (gEq x y))
def b_nobody_L2 : M Fl :=
  ((((((((M.get 2) >>= fun d => M.lift (items d)) >>= fun ds => mLC [12, 13] (.tp [(.nm 12), (.nm 13)]) (pure true) b_nobody_C1 ds) >>= fun d => (pure []) >>= fun ds => pure (d :: ds)) >>= fun ds => M.lift (gAny ds)) >>= fun d => M.lift (asB d)) >>= fun b => pure (!b)) >>= fun x => if x = true then (M.ownL 6 >>= fun _ => (M.get 7) >>= fun d => M.app 6 d >>= fun _ => pure .nx) else (pure .nx))
def b_nobody : M Fl :=
  (mSeq ((((M.get 0) >>= fun d => (pure []) >>= fun ds => pure (d :: ds)) >>= fun ds => M.ofRes (m_need_rules ds)) >>= fun _ => pure .nx)
      (mSeq ((((((M.get 1) >>= fun d => (pure []) >>= fun ds => pure (d :: ds)) >>= fun ds => M.ofRes (m_are_people ds)) >>= fun d => M.lift (asB d)) >>= fun b => pure (!b)) >>= fun x => if x = true then (M.raise ⟨"NoPeople", none⟩) else (pure .nx))
      (mSeq (((((pure .none) >>= fun d => ((pure (.str "")) >>= fun d => (pure []) >>= fun ds => pure (d :: ds)) >>= fun ds => pure (d :: ds)) >>= fun ds => M.lift (mkTup ds)) >>= fun d => (pure []) >>= fun ds => pure (d :: ds)) >>= fun ds => M.lift (szOk ds.length) >>= fun _ => M.setL 2 ds >>= fun _ => pure .nx)
      (mSeq (((M.get 1) >>= fun d => M.lift (items d)) >>= fun ds => forM (.tp [(.nm 3), (.nm 4), (.nm 5)]) b_nobody_L1 ds)
      (mSeq ((pure []) >>= fun ds => M.lift (szOk ds.length) >>= fun _ => M.setL 6 ds >>= fun _ => pure .nx)
      (mSeq ((((M.get 0) >>= fun d => (pure []) >>= fun ds => pure (d :: ds)) >>= fun ds => M.lift (gEnum ds)) >>= fun ds => forM (.tp [(.nm 7), (.tp [(.nm 8), (.nm 9), (.nm 10), (.nm 11)])]) b_nobody_L2 ds)
      ((((M.get 6) >>= fun d => (pure []) >>= fun ds => pure (d :: ds)) >>= fun ds => M.lift (gTuple ds)) >>= fun d => pure (.rt d))))))))
def m_nobody : List PyData → Res PyData := runA 2 14 b_nobody
def b__law_cell : M Fl :=
  (mSeq ((((M.get 1) >>= fun x => (M.scr 0 >>= fun cs => pure (.int cs.length)) >>= fun y => M.lift (gLtA x y)) >>= fun d => M.lift (asB d)) >>= fun x => if x = true then ((M.scr 0 >>= fun cs => (M.get 1) >>= fun j => M.lift (gIx (.list cs) j)) >>= fun d => pure (.rt d)) else (pure .nx))
      ((pure (.int 0)) >>= fun d => pure (.rt d)))
def m__law_cell : List PyData → List PyData → Res PyData := runC 1 2 b__law_cell
def b__law_pen : M Fl :=
  (((M.get 0) >>= fun d => (((((M.get 0) >>= fun x => ((pure (.int 10)) >>= fun x => (pure (.int 18)) >>= fun y => M.lift (gPow x y)) >>= fun y => M.lift (gGe x y)) >>= fun d => (pure []) >>= fun ds => pure (d :: ds)) >>= fun ds => M.lift (gInt ds)) >>= fun d => (pure []) >>= fun ds => pure (d :: ds)) >>= fun ds => pure (d :: ds)) >>= fun ds => M.lift (szOk ds.length) >>= fun _ => pure (.rl ds))
def m__law_pen : List PyData → Res (List PyData) := runL 1 1 b__law_pen
def b__law_draw : M Fl :=
  (mSeq ((((M.ownL 0 >>= fun _ => (pure (.int 1)) >>= fun k => M.peek 0 k) >>= fun x => (pure (.int 1)) >>= fun y => M.lift (gEq x y)) >>= fun d => M.lift (asB d)) >>= fun x => if x = true then (mSeq (((M.ownL 0 >>= fun _ => (pure (.int 0)) >>= fun k => M.peek 0 k) >>= fun x => (M.get 1) >>= fun y => M.lift (gMod x y)) >>= fun d => M.setD 2 d >>= fun _ => pure .nx)
      (mSeq (((M.ownL 0 >>= fun _ => (pure (.int 0)) >>= fun k => M.peek 0 k) >>= fun x => (M.get 1) >>= fun y => M.lift (gDiv x y)) >>= fun d => M.ownL 0 >>= fun _ => (pure (.int 0)) >>= fun k => M.put 0 k d >>= fun _ => pure .nx)
      ((M.get 2) >>= fun d => pure (.rt d)))) else (pure .nx))
      (mSeq ((((((M.ownL 0 >>= fun _ => (pure (.int 0)) >>= fun k => M.peek 0 k) >>= fun x => (pure (.int 2147483629)) >>= fun y => M.lift (gMod x y)) >>= fun x => (pure (.int 48271)) >>= fun y => M.lift (gMulA x y)) >>= fun x => (pure (.int 11)) >>= fun y => M.lift (gAdd x y)) >>= fun x => (pure (.int 2147483629)) >>= fun y => M.lift (gMod x y)) >>= fun d => M.ownL 0 >>= fun _ => (pure (.int 0)) >>= fun k => M.put 0 k d >>= fun _ => pure .nx)
      (((((((M.ownL 0 >>= fun _ => (pure (.int 0)) >>= fun k => M.peek 0 k) >>= fun x => (M.ownL 0 >>= fun _ => (pure (.int 0)) >>= fun k => M.peek 0 k) >>= fun y => M.lift (gMulA x y)) >>= fun x => ((pure (.int 40692)) >>= fun x => (M.ownL 0 >>= fun _ => (pure (.int 0)) >>= fun k => M.peek 0 k) >>= fun y => M.lift (gMulA x y)) >>= fun y => M.lift (gAdd x y)) >>= fun x => (pure (.int 2147483647)) >>= fun y => M.lift (gMod x y)) >>= fun x => (pure (.int 8)) >>= fun y => M.lift (gDiv x y)) >>= fun x => (M.get 1) >>= fun y => M.lift (gMod x y)) >>= fun d => pure (.rt d))))
def m__law_draw : List PyData → List PyData → Res (PyData × List PyData) := runP 1 3 b__law_draw
def b__law_pick : M Fl :=
  (((M.get 1) >>= fun x => (M.ownL 0 >>= fun _ => ((((M.get 1) >>= fun d => (pure []) >>= fun ds => pure (d :: ds)) >>= fun ds => M.lift (gLen ds)) >>= fun d => (pure []) >>= fun ds => pure (d :: ds)) >>= fun ds => M.callP 0 m__law_draw ds) >>= fun y => M.lift (gIx x y)) >>= fun d => pure (.rt d))
def m__law_pick : List PyData → List PyData → Res (PyData × List PyData) := runP 1 2 b__law_pick
def b__law_kinds_C1 : M PyData :=
  (((M.get 4) >>= fun d => (((((pure (.str "number")) >>= fun d => ((pure (.str "text")) >>= fun d => (pure []) >>= fun ds => pure (d :: ds)) >>= fun ds => pure (d :: ds)) >>= fun ds => M.lift (mkLst ds)) >>= fun x => (M.ownL 0 >>= fun _ => ((pure (.int 2)) >>= fun d => (pure []) >>= fun ds => pure (d :: ds)) >>= fun ds => M.callP 0 m__law_draw ds) >>= fun y => M.lift (gIx x y)) >>= fun d => (pure []) >>= fun ds => pure (d :: ds)) >>= fun ds => pure (d :: ds)) >>= fun ds => M.lift (mkTup ds))
def b__law_kinds_L1 : M Fl :=
  (mSeq (((((pure (.str "count")) >>= fun d => ((pure (.str "title")) >>= fun d => ((pure (.str "left")) >>= fun d => ((pure (.str "a")) >>= fun d => ((pure (.str "bb")) >>= fun d => (pure []) >>= fun ds => pure (d :: ds)) >>= fun ds => pure (d :: ds)) >>= fun ds => pure (d :: ds)) >>= fun ds => pure (d :: ds)) >>= fun ds => pure (d :: ds)) >>= fun ds => M.lift (mkLst ds)) >>= fun x => (pure none) >>= fun l => (((pure (.int 1)) >>= fun x => (M.ownL 0 >>= fun _ => ((pure (.int 5)) >>= fun d => (pure []) >>= fun ds => pure (d :: ds)) >>= fun ds => M.callP 0 m__law_draw ds) >>= fun y => M.lift (gAdd x y)) >>= fun d => M.lift (asI d) >>= fun i => pure (some i)) >>= fun h => M.lift (gSl x l h)) >>= fun d => M.setD 3 d >>= fun _ => pure .nx)
      (M.ownL 1 >>= fun _ => (((M.get 2) >>= fun d => ((((((M.get 3) >>= fun d => M.lift (items d)) >>= fun ds => mLC [4] (.nm 4) (pure true) b__law_kinds_C1 ds) >>= fun d => (pure []) >>= fun ds => pure (d :: ds)) >>= fun ds => M.lift (gTuple ds)) >>= fun d => (pure []) >>= fun ds => pure (d :: ds)) >>= fun ds => pure (d :: ds)) >>= fun ds => M.lift (mkTup ds)) >>= fun d => M.app 1 d >>= fun _ => pure .nx))
def b__law_kinds : M Fl :=
  (mSeq ((pure []) >>= fun ds => M.lift (szOk ds.length) >>= fun _ => M.setL 1 ds >>= fun _ => pure .nx)
      (mSeq ((((((pure (.str "note")) >>= fun d => ((pure (.str "item")) >>= fun d => ((pure (.str "cat")) >>= fun d => ((pure (.str "z")) >>= fun d => (pure []) >>= fun ds => pure (d :: ds)) >>= fun ds => pure (d :: ds)) >>= fun ds => pure (d :: ds)) >>= fun ds => pure (d :: ds)) >>= fun ds => M.lift (mkLst ds)) >>= fun x => (pure none) >>= fun l => (((pure (.int 1)) >>= fun x => (M.ownL 0 >>= fun _ => ((pure (.int 4)) >>= fun d => (pure []) >>= fun ds => pure (d :: ds)) >>= fun ds => M.callP 0 m__law_draw ds) >>= fun y => M.lift (gAdd x y)) >>= fun d => M.lift (asI d) >>= fun i => pure (some i)) >>= fun h => M.lift (gSl x l h)) >>= fun d => M.lift (items d)) >>= fun ds => forM (.nm 2) b__law_kinds_L1 ds)
      ((((M.get 1) >>= fun d => (pure []) >>= fun ds => pure (d :: ds)) >>= fun ds => M.lift (gTuple ds)) >>= fun d => pure (.rt d))))
def m__law_kinds : List PyData → List PyData → Res (PyData × List PyData) := runP 0 5 b__law_kinds
def b__law_rules_L1 : M Fl :=
  (mSeq ((M.ownL 0 >>= fun _ => ((M.get 1) >>= fun d => (pure []) >>= fun ds => pure (d :: ds)) >>= fun ds => M.callP 0 m__law_pick ds) >>= fun d => M.tset (.tp [(.nm 4), (.nm 5)]) d >>= fun _ => pure .nx)
      (mSeq ((M.ownL 0 >>= fun _ => ((((pure (.str "")) >>= fun d => ((pure (.str "")) >>= fun d => ((((M.get 5) >>= fun x => (M.ownL 0 >>= fun _ => ((((M.get 5) >>= fun d => (pure []) >>= fun ds => pure (d :: ds)) >>= fun ds => M.lift (gLen ds)) >>= fun d => (pure []) >>= fun ds => pure (d :: ds)) >>= fun ds => M.callP 0 m__law_draw ds) >>= fun y => M.lift (gIx x y)) >>= fun x => (pure (.int 0)) >>= fun y => M.lift (gIx x y)) >>= fun d => ((pure (.str "count")) >>= fun d => (pure []) >>= fun ds => pure (d :: ds)) >>= fun ds => pure (d :: ds)) >>= fun ds => pure (d :: ds)) >>= fun ds => pure (d :: ds)) >>= fun ds => M.lift (mkLst ds)) >>= fun d => (pure []) >>= fun ds => pure (d :: ds)) >>= fun ds => M.callP 0 m__law_pick ds) >>= fun d => M.setD 6 d >>= fun _ => pure .nx)
      (mSeq ((M.ownL 0 >>= fun _ => ((((pure (.str "all")) >>= fun d => ((pure (.str "known")) >>= fun d => ((pure (.str "own")) >>= fun d => ((pure (.str "own")) >>= fun d => ((((pure (.str "role")) >>= fun d => ((pure (.str "boss")) >>= fun d => (pure []) >>= fun ds => pure (d :: ds)) >>= fun ds => pure (d :: ds)) >>= fun ds => M.lift (mkTup ds)) >>= fun d => ((((pure (.str "role")) >>= fun d => ((pure (.str "aid")) >>= fun d => (pure []) >>= fun ds => pure (d :: ds)) >>= fun ds => pure (d :: ds)) >>= fun ds => M.lift (mkTup ds)) >>= fun d => (pure []) >>= fun ds => pure (d :: ds)) >>= fun ds => pure (d :: ds)) >>= fun ds => pure (d :: ds)) >>= fun ds => pure (d :: ds)) >>= fun ds => pure (d :: ds)) >>= fun ds => pure (d :: ds)) >>= fun ds => M.lift (mkLst ds)) >>= fun d => (pure []) >>= fun ds => pure (d :: ds)) >>= fun ds => M.callP 0 m__law_pick ds) >>= fun d => M.setD 7 d >>= fun _ => pure .nx)
      (M.ownL 2 >>= fun _ => (((M.get 7) >>= fun d => ((M.ownL 0 >>= fun _ => ((((pure (.str "see")) >>= fun d => ((pure (.str "see")) >>= fun d => ((pure (.str "see")) >>= fun d => ((pure (.str "add")) >>= fun d => ((pure (.str "change")) >>= fun d => ((pure (.str "remove")) >>= fun d => (pure []) >>= fun ds => pure (d :: ds)) >>= fun ds => pure (d :: ds)) >>= fun ds => pure (d :: ds)) >>= fun ds => pure (d :: ds)) >>= fun ds => pure (d :: ds)) >>= fun ds => pure (d :: ds)) >>= fun ds => M.lift (mkLst ds)) >>= fun d => (pure []) >>= fun ds => pure (d :: ds)) >>= fun ds => M.callP 0 m__law_pick ds) >>= fun d => ((M.get 4) >>= fun d => ((M.get 6) >>= fun d => (pure []) >>= fun ds => pure (d :: ds)) >>= fun ds => pure (d :: ds)) >>= fun ds => pure (d :: ds)) >>= fun ds => pure (d :: ds)) >>= fun ds => M.lift (mkTup ds)) >>= fun d => M.app 2 d >>= fun _ => pure .nx))))
def b__law_rules : M Fl :=
  (mSeq ((pure []) >>= fun ds => M.lift (szOk ds.length) >>= fun _ => M.setL 2 ds >>= fun _ => pure .nx)
      (mSeq ((((M.ownL 0 >>= fun _ => ((pure (.int 9)) >>= fun d => (pure []) >>= fun ds => pure (d :: ds)) >>= fun ds => M.callP 0 m__law_draw ds) >>= fun d => (pure []) >>= fun ds => pure (d :: ds)) >>= fun ds => M.lift (rangeD ds)) >>= fun ds => forM (.nm 3) b__law_rules_L1 ds)
      ((((M.get 2) >>= fun d => (pure []) >>= fun ds => pure (d :: ds)) >>= fun ds => M.lift (gTuple ds)) >>= fun d => pure (.rt d))))
def m__law_rules : List PyData → List PyData → Res (PyData × List PyData) := runP 1 8 b__law_rules
def b__law_let_L1 : M Fl :=
  ((mAnd ((((M.get 7) >>= fun x => (pure (.int 1)) >>= fun y => M.lift (gIx x y)) >>= fun x => (M.get 2) >>= fun y => M.lift (gEq x y)) >>= fun d => M.lift (asB d)) (mAnd ((((M.get 7) >>= fun x => (pure (.int 2)) >>= fun y => M.lift (gIx x y)) >>= fun x => (M.get 3) >>= fun y => M.lift (gEq x y)) >>= fun d => M.lift (asB d)) ((((M.get 7) >>= fun x => (pure (.int 3)) >>= fun y => M.lift (gIx x y)) >>= fun x => (((pure (.str "")) >>= fun d => ((M.get 4) >>= fun d => (pure []) >>= fun ds => pure (d :: ds)) >>= fun ds => pure (d :: ds)) >>= fun ds => M.lift (mkLst ds)) >>= fun y => M.lift (gIn x y)) >>= fun d => M.lift (asB d)))) >>= fun x => if x = true then (mSeq ((mOr ((((M.get 7) >>= fun x => (pure (.int 0)) >>= fun y => M.lift (gIx x y)) >>= fun x => (pure (.str "all")) >>= fun y => M.lift (gEq x y)) >>= fun d => M.lift (asB d)) (mAnd (((M.get 1) >>= fun x => (pure .none) >>= fun y => M.lift (gNotN x y)) >>= fun d => M.lift (asB d)) ((((M.get 7) >>= fun x => (pure (.int 0)) >>= fun y => M.lift (gIx x y)) >>= fun x => (pure (.str "known")) >>= fun y => M.lift (gEq x y)) >>= fun d => M.lift (asB d)))) >>= fun x => if x = true then ((M.get 6) >>= fun d => pure (.rt d)) else (pure .nx))
      (mSeq ((mAnd (((M.get 1) >>= fun x => (pure .none) >>= fun y => M.lift (gNotN x y)) >>= fun d => M.lift (asB d)) (mAnd ((((M.get 7) >>= fun x => (pure (.int 0)) >>= fun y => M.lift (gIx x y)) >>= fun x => (pure (.str "own")) >>= fun y => M.lift (gEq x y)) >>= fun d => M.lift (asB d)) ((((M.get 1) >>= fun x => (pure (.int 0)) >>= fun y => M.lift (gIx x y)) >>= fun x => (M.get 5) >>= fun y => M.lift (gEq x y)) >>= fun d => M.lift (asB d)))) >>= fun x => if x = true then ((M.get 6) >>= fun d => pure (.rt d)) else (pure .nx))
      ((mAnd (((M.get 1) >>= fun x => (pure .none) >>= fun y => M.lift (gNotN x y)) >>= fun d => M.lift (asB d)) (mAnd ((((M.get 7) >>= fun x => (pure (.int 0)) >>= fun y => M.lift (gIx x y)) >>= fun d => pure (.bool (isTuple d))) >>= fun d => M.lift (asB d)) (((((M.get 7) >>= fun x => (pure (.int 0)) >>= fun y => M.lift (gIx x y)) >>= fun x => (pure (.int 1)) >>= fun y => M.lift (gIx x y)) >>= fun x => ((M.get 1) >>= fun x => (pure (.int 1)) >>= fun y => M.lift (gIx x y)) >>= fun y => M.lift (gIn x y)) >>= fun d => M.lift (asB d)))) >>= fun x => if x = true then ((M.get 6) >>= fun d => pure (.rt d)) else (pure .nx)))) else (pure .nx))
def b__law_let : M Fl :=
  (mSeq ((((M.get 0) >>= fun d => (pure []) >>= fun ds => pure (d :: ds)) >>= fun ds => M.lift (gEnum ds)) >>= fun ds => forM (.tp [(.nm 6), (.nm 7)]) b__law_let_L1 ds)
      ((pure .none) >>= fun d => pure (.rt d)))
def m__law_let : List PyData → Res PyData := runA 6 8 b__law_let
def b__law_people_C1 : M PyData :=
  (M.get 2)
def b__law_people_T1 : M Bool :=
  (((M.ownL 0 >>= fun _ => ((pure (.int 2)) >>= fun d => (pure []) >>= fun ds => pure (d :: ds)) >>= fun ds => M.callP 0 m__law_draw ds) >>= fun x => (pure (.int 0)) >>= fun y => M.lift (gEq x y)) >>= fun d => M.lift (asB d))
def b__law_people : M Fl :=
  (mSeq ((((((pure (.str "ann")) >>= fun d => ((pure (.str "pw")) >>= fun d => (((pure []) >>= fun ds => M.lift (mkTup ds)) >>= fun d => (pure []) >>= fun ds => pure (d :: ds)) >>= fun ds => pure (d :: ds)) >>= fun ds => pure (d :: ds)) >>= fun ds => M.lift (mkTup ds)) >>= fun d => ((((pure (.str "bob")) >>= fun d => ((pure (.str "b1")) >>= fun d => ((((pure (.str "boss")) >>= fun d => (pure []) >>= fun ds => pure (d :: ds)) >>= fun ds => M.lift (mkTup ds)) >>= fun d => (pure []) >>= fun ds => pure (d :: ds)) >>= fun ds => pure (d :: ds)) >>= fun ds => pure (d :: ds)) >>= fun ds => M.lift (mkTup ds)) >>= fun d => ((((pure (.str "cy")) >>= fun d => ((pure (.str "c")) >>= fun d => ((((pure (.str "aid")) >>= fun d => ((pure (.str "boss")) >>= fun d => (pure []) >>= fun ds => pure (d :: ds)) >>= fun ds => pure (d :: ds)) >>= fun ds => M.lift (mkTup ds)) >>= fun d => (pure []) >>= fun ds => pure (d :: ds)) >>= fun ds => pure (d :: ds)) >>= fun ds => pure (d :: ds)) >>= fun ds => M.lift (mkTup ds)) >>= fun d => ((((pure (.str "dan")) >>= fun d => ((pure (.str "d-")) >>= fun d => ((((pure (.str "aid")) >>= fun d => (pure []) >>= fun ds => pure (d :: ds)) >>= fun ds => M.lift (mkTup ds)) >>= fun d => (pure []) >>= fun ds => pure (d :: ds)) >>= fun ds => pure (d :: ds)) >>= fun ds => pure (d :: ds)) >>= fun ds => M.lift (mkTup ds)) >>= fun d => (pure []) >>= fun ds => pure (d :: ds)) >>= fun ds => pure (d :: ds)) >>= fun ds => pure (d :: ds)) >>= fun ds => pure (d :: ds)) >>= fun ds => M.lift (mkLst ds)) >>= fun d => M.setD 1 d >>= fun _ => pure .nx)
      ((((((M.get 1) >>= fun d => M.lift (items d)) >>= fun ds => mLC [2] (.nm 2) b__law_people_T1 b__law_people_C1 ds) >>= fun d => (pure []) >>= fun ds => pure (d :: ds)) >>= fun ds => M.lift (gTuple ds)) >>= fun d => pure (.rt d)))
def m__law_people : List PyData → List PyData → Res (PyData × List PyData) := runP 0 3 b__law_people
def b__law_told_C1 : M PyData :=
  (((M.get 9) >>= fun d => ((M.get 11) >>= fun d => (pure []) >>= fun ds => pure (d :: ds)) >>= fun ds => pure (d :: ds)) >>= fun ds => M.lift (mkTup ds))
def b__law_told_C2 : M PyData :=
  ((M.get 12) >>= fun x => ((pure (.int 1)) >>= fun d => M.lift (asI d) >>= fun i => pure (some i)) >>= fun l => (pure none) >>= fun h => M.lift (gSl x l h))
def b__law_told_L1 : M Fl :=
  (M.ownL 2 >>= fun _ => (((M.get 0) >>= fun d => ((M.get 3) >>= fun d => ((M.get 5) >>= fun d => ((M.get 6) >>= fun d => ((M.get 8) >>= fun d => ((M.get 4) >>= fun d => (pure []) >>= fun ds => pure (d :: ds)) >>= fun ds => pure (d :: ds)) >>= fun ds => pure (d :: ds)) >>= fun ds => pure (d :: ds)) >>= fun ds => pure (d :: ds)) >>= fun ds => pure (d :: ds)) >>= fun ds => M.ofRes (m__law_let ds)) >>= fun d => M.app 2 d >>= fun _ => pure .nx)
def b__law_told_L2 : M Fl :=
  ((((((M.get 7) >>= fun d => ((pure (.str "")) >>= fun d => ((pure (.str "count")) >>= fun d => ((pure (.str "other")) >>= fun d => (pure []) >>= fun ds => pure (d :: ds)) >>= fun ds => pure (d :: ds)) >>= fun ds => pure (d :: ds)) >>= fun ds => pure (d :: ds)) >>= fun ds => M.lift (mkLst ds)) >>= fun d => M.lift (gSortSet d)) >>= fun d => M.lift (items d)) >>= fun ds => forM (.nm 8) b__law_told_L1 ds)
def b__law_told_L3 : M Fl :=
  ((((((M.get 0) >>= fun d => M.lift (items d)) >>= fun ds => mLC [12] (.nm 12) (pure true) b__law_told_C2 ds) >>= fun d => M.lift (gSortSetK d)) >>= fun d => M.lift (items d)) >>= fun ds => forM (.tp [(.nm 5), (.nm 6), (.nm 7)]) b__law_told_L2 ds)
def b__law_told_L4 : M Fl :=
  (((((pure (.str "")) >>= fun d => ((pure (.str "ann")) >>= fun d => ((pure (.str "bob")) >>= fun d => ((pure (.str "cy")) >>= fun d => ((pure (.str "dan")) >>= fun d => ((pure (.str "zz")) >>= fun d => (pure []) >>= fun ds => pure (d :: ds)) >>= fun ds => pure (d :: ds)) >>= fun ds => pure (d :: ds)) >>= fun ds => pure (d :: ds)) >>= fun ds => pure (d :: ds)) >>= fun ds => pure (d :: ds)) >>= fun ds => M.lift (mkLst ds)) >>= fun d => M.lift (items d)) >>= fun ds => forM (.nm 4) b__law_told_L3 ds)
def b__law_told : M Fl :=
  (mSeq ((pure []) >>= fun ds => M.lift (szOk ds.length) >>= fun _ => M.setL 2 ds >>= fun _ => pure .nx)
      (mSeq ((((((pure .none) >>= fun d => (pure []) >>= fun ds => pure (d :: ds)) >>= fun ds => M.lift (mkLst ds)) >>= fun x => (((M.get 1) >>= fun d => M.lift (items d)) >>= fun ds => mLC [9, 10, 11] (.tp [(.nm 9), (.nm 10), (.nm 11)]) (pure true) b__law_told_C1 ds) >>= fun y => M.lift (gAdd x y)) >>= fun d => M.lift (items d)) >>= fun ds => forM (.nm 3) b__law_told_L4 ds)
      ((M.get 2) >>= fun d => pure (.rt d))))
def m__law_told : List PyData → Res PyData := runA 2 13 b__law_told
def b_law_C1 : M PyData :=
  (M.get 10)
def b_law_T1 : M Bool :=
  (((M.get 10) >>= fun x => (M.get 8) >>= fun y => M.lift (gNotIn x y)) >>= fun d => M.lift (asB d))
def b_law_L1 : M Fl :=
  (mSeq (((M.ownL 4 >>= fun _ => ((M.ownL 4 >>= fun _ => (pure []) >>= fun ds => M.callP 4 m__law_kinds ds) >>= fun d => (pure []) >>= fun ds => pure (d :: ds)) >>= fun ds => M.callP 4 m__law_rules ds) >>= fun d => ((M.ownL 4 >>= fun _ => (pure []) >>= fun ds => M.callP 4 m__law_people ds) >>= fun d => (pure []) >>= fun ds => pure (d :: ds)) >>= fun ds => pure (d :: ds)) >>= fun ds => M.tset (.tp [.nm 6, .nm 7]) (.tuple ds) >>= fun _ => pure .nx)
      (mSeq ((((M.get 6) >>= fun d => ((M.get 7) >>= fun d => (pure []) >>= fun ds => pure (d :: ds)) >>= fun ds => pure (d :: ds)) >>= fun ds => M.ofRes (m__law_told ds)) >>= fun d => M.setD 8 d >>= fun _ => pure .nx)
      (mSeq (((((((((M.get 6) >>= fun d => (pure []) >>= fun ds => pure (d :: ds)) >>= fun ds => M.lift (gLen ds)) >>= fun d => (pure []) >>= fun ds => pure (d :: ds)) >>= fun ds => M.lift (rangeD ds)) >>= fun ds => mLC [10] (.nm 10) b_law_T1 b_law_C1 ds) >>= fun d => (pure []) >>= fun ds => pure (d :: ds)) >>= fun ds => M.lift (gTuple ds)) >>= fun d => M.setD 9 d >>= fun _ => pure .nx)
      ((((((((M.get 6) >>= fun d => ((M.get 7) >>= fun d => (pure []) >>= fun ds => pure (d :: ds)) >>= fun ds => pure (d :: ds)) >>= fun ds => M.ofRes (m_nobody ds)) >>= fun d => (pure []) >>= fun ds => pure (d :: ds)) >>= fun ds => M.lift (gReprA ds)) >>= fun x => (((M.get 9) >>= fun d => (pure []) >>= fun ds => pure (d :: ds)) >>= fun ds => M.lift (gReprA ds)) >>= fun y => M.lift (gNe x y)) >>= fun d => M.lift (asB d)) >>= fun x => if x = true then ((pure (.bool false)) >>= fun d => pure (.rt d)) else (pure .nx)))))
def b_law_L2 : M Fl :=
  (mSeq (((M.get 3) >>= fun d => (pure []) >>= fun ds => pure (d :: ds)) >>= fun ds => M.ofRes (m__law_pen ds) >>= fun r => M.setL 4 r >>= fun _ => pure .nx)
      ((((pure (.int 4)) >>= fun d => (pure []) >>= fun ds => pure (d :: ds)) >>= fun ds => M.lift (rangeD ds)) >>= fun ds => forM (.nm 5) b_law_L1 ds))
def b_law : M Fl :=
  (mSeq ((((((pure (.str "all")) >>= fun d => ((pure (.str "see")) >>= fun d => ((pure (.str "note")) >>= fun d => ((pure (.str "count")) >>= fun d => (pure []) >>= fun ds => pure (d :: ds)) >>= fun ds => pure (d :: ds)) >>= fun ds => pure (d :: ds)) >>= fun ds => pure (d :: ds)) >>= fun ds => M.lift (mkTup ds)) >>= fun d => ((((pure (.str "known")) >>= fun d => ((pure (.str "see")) >>= fun d => ((pure (.str "note")) >>= fun d => ((pure (.str "")) >>= fun d => (pure []) >>= fun ds => pure (d :: ds)) >>= fun ds => pure (d :: ds)) >>= fun ds => pure (d :: ds)) >>= fun ds => pure (d :: ds)) >>= fun ds => M.lift (mkTup ds)) >>= fun d => ((((pure (.str "own")) >>= fun d => ((pure (.str "see")) >>= fun d => ((pure (.str "note")) >>= fun d => ((pure (.str "")) >>= fun d => (pure []) >>= fun ds => pure (d :: ds)) >>= fun ds => pure (d :: ds)) >>= fun ds => pure (d :: ds)) >>= fun ds => pure (d :: ds)) >>= fun ds => M.lift (mkTup ds)) >>= fun d => (pure []) >>= fun ds => pure (d :: ds)) >>= fun ds => pure (d :: ds)) >>= fun ds => pure (d :: ds)) >>= fun ds => M.lift (mkTup ds)) >>= fun d => M.setD 1 d >>= fun _ => pure .nx)
      (mSeq ((mOr (((((M.get 1) >>= fun d => (((pure []) >>= fun ds => M.lift (mkTup ds)) >>= fun d => (pure []) >>= fun ds => pure (d :: ds)) >>= fun ds => pure (d :: ds)) >>= fun ds => M.ofRes (m_nobody ds)) >>= fun x => (((pure (.int 1)) >>= fun d => ((pure (.int 2)) >>= fun d => (pure []) >>= fun ds => pure (d :: ds)) >>= fun ds => pure (d :: ds)) >>= fun ds => M.lift (mkTup ds)) >>= fun y => M.lift (gNe x y)) >>= fun d => M.lift (asB d)) (((((M.get 1) >>= fun d => ((((((pure (.str "ann")) >>= fun d => ((pure (.str "pw")) >>= fun d => (((pure []) >>= fun ds => M.lift (mkTup ds)) >>= fun d => (pure []) >>= fun ds => pure (d :: ds)) >>= fun ds => pure (d :: ds)) >>= fun ds => pure (d :: ds)) >>= fun ds => M.lift (mkTup ds)) >>= fun d => (pure []) >>= fun ds => pure (d :: ds)) >>= fun ds => M.lift (mkTup ds)) >>= fun d => (pure []) >>= fun ds => pure (d :: ds)) >>= fun ds => pure (d :: ds)) >>= fun ds => M.ofRes (m_nobody ds)) >>= fun x => (((pure (.int 2)) >>= fun d => (pure []) >>= fun ds => pure (d :: ds)) >>= fun ds => M.lift (mkTup ds)) >>= fun y => M.lift (gNe x y)) >>= fun d => M.lift (asB d))) >>= fun x => if x = true then ((pure (.bool false)) >>= fun d => pure (.rt d)) else (pure .nx))
      (mSeq ((((((((pure (.str "role")) >>= fun d => ((pure (.str "a")) >>= fun d => (pure []) >>= fun ds => pure (d :: ds)) >>= fun ds => pure (d :: ds)) >>= fun ds => M.lift (mkTup ds)) >>= fun d => ((pure (.str "see")) >>= fun d => ((pure (.str "note")) >>= fun d => ((pure (.str "")) >>= fun d => (pure []) >>= fun ds => pure (d :: ds)) >>= fun ds => pure (d :: ds)) >>= fun ds => pure (d :: ds)) >>= fun ds => pure (d :: ds)) >>= fun ds => M.lift (mkTup ds)) >>= fun d => ((((((pure (.str "role")) >>= fun d => ((pure (.str "b")) >>= fun d => (pure []) >>= fun ds => pure (d :: ds)) >>= fun ds => pure (d :: ds)) >>= fun ds => M.lift (mkTup ds)) >>= fun d => ((pure (.str "see")) >>= fun d => ((pure (.str "note")) >>= fun d => ((pure (.str "")) >>= fun d => (pure []) >>= fun ds => pure (d :: ds)) >>= fun ds => pure (d :: ds)) >>= fun ds => pure (d :: ds)) >>= fun ds => pure (d :: ds)) >>= fun ds => M.lift (mkTup ds)) >>= fun d => ((((pure (.str "known")) >>= fun d => ((pure (.str "see")) >>= fun d => ((pure (.str "note")) >>= fun d => ((pure (.str "")) >>= fun d => (pure []) >>= fun ds => pure (d :: ds)) >>= fun ds => pure (d :: ds)) >>= fun ds => pure (d :: ds)) >>= fun ds => pure (d :: ds)) >>= fun ds => M.lift (mkTup ds)) >>= fun d => (pure []) >>= fun ds => pure (d :: ds)) >>= fun ds => pure (d :: ds)) >>= fun ds => pure (d :: ds)) >>= fun ds => M.lift (mkTup ds)) >>= fun d => M.setD 2 d >>= fun _ => pure .nx)
      (mSeq ((((((M.get 2) >>= fun d => ((((((pure (.str "ann")) >>= fun d => ((pure (.str "x")) >>= fun d => ((((pure (.str "a")) >>= fun d => (pure []) >>= fun ds => pure (d :: ds)) >>= fun ds => M.lift (mkTup ds)) >>= fun d => (pure []) >>= fun ds => pure (d :: ds)) >>= fun ds => pure (d :: ds)) >>= fun ds => pure (d :: ds)) >>= fun ds => M.lift (mkTup ds)) >>= fun d => ((((pure (.str "bob")) >>= fun d => ((pure (.str "y")) >>= fun d => ((((pure (.str "b")) >>= fun d => (pure []) >>= fun ds => pure (d :: ds)) >>= fun ds => M.lift (mkTup ds)) >>= fun d => (pure []) >>= fun ds => pure (d :: ds)) >>= fun ds => pure (d :: ds)) >>= fun ds => pure (d :: ds)) >>= fun ds => M.lift (mkTup ds)) >>= fun d => (pure []) >>= fun ds => pure (d :: ds)) >>= fun ds => pure (d :: ds)) >>= fun ds => M.lift (mkTup ds)) >>= fun d => (pure []) >>= fun ds => pure (d :: ds)) >>= fun ds => pure (d :: ds)) >>= fun ds => M.ofRes (m_nobody ds)) >>= fun x => (((pure (.int 2)) >>= fun d => (pure []) >>= fun ds => pure (d :: ds)) >>= fun ds => M.lift (mkTup ds)) >>= fun y => M.lift (gNe x y)) >>= fun d => M.lift (asB d)) >>= fun x => if x = true then ((pure (.bool false)) >>= fun d => pure (.rt d)) else (pure .nx))
      (mSeq ((((((M.scr 0 >>= fun cs => ((pure (.int 0)) >>= fun d => (pure []) >>= fun ds => pure (d :: ds)) >>= fun ds => M.ofRes (m__law_cell cs ds)) >>= fun d => (pure []) >>= fun ds => pure (d :: ds)) >>= fun ds => M.lift (mkLst ds)) >>= fun x => (M.scr 0 >>= fun cs => ((pure (.int 1)) >>= fun d => M.lift (asI d) >>= fun i => pure (some i)) >>= fun l => ((pure (.int 2)) >>= fun d => M.lift (asI d) >>= fun i => pure (some i)) >>= fun h => pure (.list (cutD cs l h))) >>= fun y => M.lift (gAdd x y)) >>= fun d => M.lift (items d)) >>= fun ds => forM (.nm 3) b_law_L2 ds)
      ((pure (.bool true)) >>= fun d => pure (.rt d)))))))
def m_law : List PyData → List PyData → Res PyData := runC 0 11 b_law
end Lw
namespace Lw
open PySem L2 DL
theorem gMul_int {a b : Int} (h : -(2 ^ 64) < a ∧ a < 2 ^ 64) : gMulA (.int a) (.int b) = some (.int (a * b)) := by
  have : gMul (.int a) (.int b) = some (.int (a * b)) := if_pos (.inl h)
  simp [gMulA, orG, this]
theorem draw_spec (c f n : Int) (hn : 0 < n) (hn2 : n < 1073741824) : ∃ k c', m__law_draw [.int c, .int f] [.int n] = .ok (.int k, [.int c', .int f]) ∧ 0 ≤ k ∧ k < n := by
  by_cases hf : f = 1
  · refine ⟨c % n, c / n, ?_, Int.emod_nonneg _ (by omega), Int.emod_lt_of_pos _ hn⟩
    subst hf
    simp [m__law_draw, b__law_draw, runA, runL, runP, runC, startE, mSeq, bind_run, pure_run, M.get, M.ownL, M.peek, M.put, M.app, M.lift, M.setD, M.setL, M.tset, Tg.set, Tg.setL, M.ofRes, M.callP, M.scr, M.raise, mAnd, mOr, vAnd, vOr, mChain, asB, asI, gIx, gIsN, gNotN, gLen, gTuple, gList, items, gEnum, gZip, gSl, isStr, isInt, isBool, isTuple, isList, isDict, gEq_str, gNe_str, gEq_int, gNe_int, mkTup_ok, mkLst_ok, szOk_ok, atI_0, atI_1, atI_2, atI_3, atI_4, atI_5, le_line, M.setT, M.ownD, M.dput, M.dget, M.keysD, M.ext, M.getW, runF, M.isFn, gMod, gDiv, L2.atI, L2.ixN, hn, hn2]
  · have a1 : 0 ≤ c % 2147483629 := Int.emod_nonneg _ (by omega)
    have a2 : c % 2147483629 < 2147483629 := Int.emod_lt_of_pos _ (by omega)
    have b1 : 0 ≤ (c % 2147483629 * 48271 + 11) % 2147483629 := Int.emod_nonneg _ (by omega)
    have b2 : (c % 2147483629 * 48271 + 11) % 2147483629 < 2147483629 := Int.emod_lt_of_pos _ (by omega)
    have m1 : gMulA (.int (c % 2147483629)) (.int 48271) = some (.int (c % 2147483629 * 48271)) := gMul_int (by omega)
    have m2 := gMul_int (a := (c % 2147483629 * 48271 + 11) % 2147483629) (b := (c % 2147483629 * 48271 + 11) % 2147483629) (by omega)
    have m3 := gMul_int (a := 40692) (b := (c % 2147483629 * 48271 + 11) % 2147483629) (by omega)
    refine ⟨((c % 2147483629 * 48271 + 11) % 2147483629 * ((c % 2147483629 * 48271 + 11) % 2147483629) + 40692 * ((c % 2147483629 * 48271 + 11) % 2147483629)) % 2147483647 / 8 % n, (c % 2147483629 * 48271 + 11) % 2147483629, ?_, Int.emod_nonneg _ (by omega), Int.emod_lt_of_pos _ hn⟩
    simp [m__law_draw, b__law_draw, runA, runL, runP, runC, startE, mSeq, bind_run, pure_run, M.get, M.ownL, M.peek, M.put, M.app, M.lift, M.setD, M.setL, M.tset, Tg.set, Tg.setL, M.ofRes, M.callP, M.scr, M.raise, mAnd, mOr, vAnd, vOr, mChain, asB, asI, gIx, gIsN, gNotN, gLen, gTuple, gList, items, gEnum, gZip, gSl, isStr, isInt, isBool, isTuple, isList, isDict, gEq_str, gNe_str, gEq_int, gNe_int, mkTup_ok, mkLst_ok, szOk_ok, atI_0, atI_1, atI_2, atI_3, atI_4, atI_5, le_line, M.setT, M.ownD, M.dput, M.dget, M.keysD, M.ext, M.getW, runF, M.isFn, gMod, gDiv, gAdd, m1, m2, m3, L2.atI, L2.ixN, hn, hn2, hf]
theorem atI_nat {α : Type} {xs : List α} {k : Int} (h0 : 0 ≤ k) (h1 : k < xs.length) : ∃ x, L2.atI xs k = some x ∧ x ∈ xs := by
  have h : k.toNat < xs.length := by omega
  refine ⟨xs[k.toNat], ?_, List.getElem_mem h⟩
  simp [L2.atI, L2.ixN, h0, h1, h]
theorem pick_list (c f : Int) (ds : List PyData) (h : ds ≠ []) (hl : ds.length ≤ 1000) : ∃ d c', m__law_pick [.int c, .int f] [.list ds] = .ok (d, [.int c', .int f]) ∧ d ∈ ds := by
  have hp : 0 < ds.length := List.length_pos_iff.mpr h
  obtain ⟨k, c', h1, h2, h3⟩ := draw_spec c f ds.length (by omega) (by omega)
  obtain ⟨d, h4, h5⟩ := atI_nat h2 h3
  exact ⟨d, c', by simp [m__law_pick, b__law_pick, runA, runL, runP, runC, startE, mSeq, bind_run, pure_run, M.get, M.ownL, M.peek, M.put, M.app, M.lift, M.setD, M.setL, M.tset, Tg.set, Tg.setL, M.ofRes, M.callP, M.scr, M.raise, mAnd, mOr, vAnd, vOr, mChain, asB, asI, gIx, gIsN, gNotN, gLen, gTuple, gList, items, gEnum, gZip, gSl, isStr, isInt, isBool, isTuple, isList, isDict, gEq_str, gNe_str, gEq_int, gNe_int, mkTup_ok, mkLst_ok, szOk_ok, atI_0, atI_1, atI_2, atI_3, atI_4, atI_5, le_line, M.setT, M.ownD, M.dput, M.dget, M.keysD, M.ext, M.getW, runF, M.isFn, h1, h4], h5⟩
theorem pick_tuple (c f : Int) (ds : List PyData) (h : ds ≠ []) (hl : ds.length ≤ 1000) : ∃ d c', m__law_pick [.int c, .int f] [.tuple ds] = .ok (d, [.int c', .int f]) ∧ d ∈ ds := by
  have hp : 0 < ds.length := List.length_pos_iff.mpr h
  obtain ⟨k, c', h1, h2, h3⟩ := draw_spec c f ds.length (by omega) (by omega)
  obtain ⟨d, h4, h5⟩ := atI_nat h2 h3
  exact ⟨d, c', by simp [m__law_pick, b__law_pick, runA, runL, runP, runC, startE, mSeq, bind_run, pure_run, M.get, M.ownL, M.peek, M.put, M.app, M.lift, M.setD, M.setL, M.tset, Tg.set, Tg.setL, M.ofRes, M.callP, M.scr, M.raise, mAnd, mOr, vAnd, vOr, mChain, asB, asI, gIx, gIsN, gNotN, gLen, gTuple, gList, items, gEnum, gZip, gSl, isStr, isInt, isBool, isTuple, isList, isDict, gEq_str, gNe_str, gEq_int, gNe_int, mkTup_ok, mkLst_ok, szOk_ok, atI_0, atI_1, atI_2, atI_3, atI_4, atI_5, le_line, M.setT, M.ownD, M.dput, M.dget, M.keysD, M.ext, M.getW, runF, M.isFn, h1, h4], h5⟩
theorem pen_spec (c : Int) : ∃ f, m__law_pen [.int c] = .ok [.int c, .int f] := by
  refine ⟨if (10 : Int) ^ 18 ≤ c then 1 else 0, ?_⟩
  simp [m__law_pen, b__law_pen, runA, runL, runP, runC, startE, mSeq, bind_run, pure_run, M.get, M.ownL, M.peek, M.put, M.app, M.lift, M.setD, M.setL, M.tset, Tg.set, Tg.setL, M.ofRes, M.callP, M.scr, M.raise, mAnd, mOr, vAnd, vOr, mChain, asB, asI, gIx, gIsN, gNotN, gLen, gTuple, gList, items, gEnum, gZip, gSl, isStr, isInt, isBool, isTuple, isList, isDict, gEq_str, gNe_str, gEq_int, gNe_int, mkTup_ok, mkLst_ok, szOk_ok, atI_0, atI_1, atI_2, atI_3, atI_4, atI_5, le_line, M.setT, M.ownD, M.dput, M.dget, M.keysD, M.ext, M.getW, runF, M.isFn, gPow, gGe, gCmpI, gInt, le_line]
theorem cell_spec (cs : List Int) (k : Int) (h0 : 0 ≤ k) : ∃ c, m__law_cell (cs.map .int) [.int k] = .ok (.int c) := by
  by_cases h : k < cs.length
  · have h' : k.toNat < cs.length := by omega
    refine ⟨cs[k.toNat], ?_⟩
    simp [m__law_cell, b__law_cell, runA, runL, runP, runC, startE, mSeq, bind_run, pure_run, M.get, M.ownL, M.peek, M.put, M.app, M.lift, M.setD, M.setL, M.tset, Tg.set, Tg.setL, M.ofRes, M.callP, M.scr, M.raise, mAnd, mOr, vAnd, vOr, mChain, asB, asI, gIx, gIsN, gNotN, gLen, gTuple, gList, items, gEnum, gZip, gSl, isStr, isInt, isBool, isTuple, isList, isDict, gEq_str, gNe_str, gEq_int, gNe_int, mkTup_ok, mkLst_ok, szOk_ok, atI_0, atI_1, atI_2, atI_3, atI_4, atI_5, le_line, M.setT, M.ownD, M.dput, M.dget, M.keysD, M.ext, M.getW, runF, M.isFn, gLtA, gLt, orG, gCmpI, L2.atI, L2.ixN, h, h0, h']
  · refine ⟨0, ?_⟩
    simp [m__law_cell, b__law_cell, runA, runL, runP, runC, startE, mSeq, bind_run, pure_run, M.get, M.ownL, M.peek, M.put, M.app, M.lift, M.setD, M.setL, M.tset, Tg.set, Tg.setL, M.ofRes, M.callP, M.scr, M.raise, mAnd, mOr, vAnd, vOr, mChain, asB, asI, gIx, gIsN, gNotN, gLen, gTuple, gList, items, gEnum, gZip, gSl, isStr, isInt, isBool, isTuple, isList, isDict, gEq_str, gNe_str, gEq_int, gNe_int, mkTup_ok, mkLst_ok, szOk_ok, atI_0, atI_1, atI_2, atI_3, atI_4, atI_5, le_line, M.setT, M.ownD, M.dput, M.dget, M.keysD, M.ext, M.getW, runF, M.isFn, gLtA, gLt, orG, gCmpI, h]
end Lw
namespace Lw
open PySem L2 DL
def NM : List PyData := [.str "note", .str "item", .str "cat", .str "z"]
def FN : List PyData := [.str "count", .str "title", .str "left", .str "a", .str "bb"]
def SO : List PyData := [.str "number", .str "text"]
def fst1 : PyData → PyData
  | .tuple (a :: _) => a
  | d => d
/-- fields: their names are the first of FN -/
def fieldsOk (fs : List PyData) : Prop := ∃ j, 1 ≤ j ∧ j ≤ 5 ∧ fs.map fst1 = FN.take j ∧ ∀ x ∈ fs, ∃ f t, x = .tuple [f, t] ∧ t ∈ SO
def kindOk (d : PyData) : Prop := ∃ n fs, d = .tuple [n, .tuple fs] ∧ n ∈ NM ∧ fieldsOk fs
def kindsOk (ks : List PyData) : Prop := (∃ m, 1 ≤ m ∧ m ≤ 4 ∧ ks.map fst1 = NM.take m) ∧ ∀ k ∈ ks, kindOk k
theorem cut5 (k : Int) (h0 : 0 ≤ k) (h1 : k < 5) : ∃ j, 1 ≤ j ∧ j ≤ 5 ∧ cutD FN none (some (1 + k)) = FN.take j := by
  have : k = 0 ∨ k = 1 ∨ k = 2 ∨ k = 3 ∨ k = 4 := by omega
  rcases this with rfl | rfl | rfl | rfl | rfl
  · exact ⟨1, by omega, by omega, rfl⟩
  · exact ⟨2, by omega, by omega, rfl⟩
  · exact ⟨3, by omega, by omega, rfl⟩
  · exact ⟨4, by omega, by omega, rfl⟩
  · exact ⟨5, by omega, by omega, rfl⟩
theorem cut4 (k : Int) (h0 : 0 ≤ k) (h1 : k < 4) : ∃ j, 1 ≤ j ∧ j ≤ 4 ∧ cutD NM none (some (1 + k)) = NM.take j := by
  have : k = 0 ∨ k = 1 ∨ k = 2 ∨ k = 3 := by omega
  rcases this with rfl | rfl | rfl | rfl
  · exact ⟨1, by omega, by omega, rfl⟩
  · exact ⟨2, by omega, by omega, rfl⟩
  · exact ⟨3, by omega, by omega, rfl⟩
  · exact ⟨4, by omega, by omega, rfl⟩
theorem ix2 (k : Int) (h0 : 0 ≤ k) (h1 : k < 2) : ∃ d, L2.atI [PyData.str "number", .str "text"] k = some d ∧ d ∈ SO := by
  have : k = 0 ∨ k = 1 := by omega
  rcases this with rfl | rfl <;> exact ⟨_, rfl, by simp [SO]⟩
theorem kinds_C1 (c f : Int) (R : List PyData) (n fs fld : PyData) : ∃ t c', b__law_kinds_C1 [some (.lis true [.int c, .int f]), some (.lis false R), some (.dat n), some (.dat fs), some (.dat fld)] = .ok (.tuple [fld, t]) [some (.lis true [.int c', .int f]), some (.lis false R), some (.dat n), some (.dat fs), some (.dat fld)] ∧ t ∈ SO := by
  obtain ⟨k, c', h1, h2, h3⟩ := draw_spec c f 2 (by omega) (by omega)
  obtain ⟨d, h4, h5⟩ := ix2 k h2 h3
  refine ⟨d, c', ?_, h5⟩
  simp [b__law_kinds_C1, runA, runL, runP, runC, startE, mSeq, bind_run, pure_run, M.get, M.ownL, M.peek, M.put, M.app, M.lift, M.setD, M.setL, M.tset, Tg.set, Tg.setL, M.ofRes, M.callP, M.scr, M.raise, mAnd, mOr, vAnd, vOr, mChain, asB, asI, gIx, gIsN, gNotN, gLen, gTuple, gList, items, gEnum, gZip, gSl, isStr, isInt, isBool, isTuple, isList, isDict, gEq_str, gNe_str, gEq_int, gNe_int, mkTup_ok, mkLst_ok, szOk_ok, atI_0, atI_1, atI_2, atI_3, atI_4, atI_5, le_line, M.setT, M.ownD, M.dput, M.dget, M.keysD, M.ext, M.getW, runF, M.isFn, h1, h4]
theorem kinds_L1 (c f : Int) (R : List PyData) (n : PyData) (s3 : Option Sv) (hR : R.length ≤ 100) : ∃ fs xs c', b__law_kinds_L1 [some (.lis true [.int c, .int f]), some (.lis false R), some (.dat n), s3, none] = .ok .nx [some (.lis true [.int c', .int f]), some (.lis false (R ++ [.tuple [n, .tuple fs]])), some (.dat n), some (.dat (.list xs)), none] ∧ fieldsOk fs := by
  obtain ⟨k, c1, h1, h2, h3⟩ := draw_spec c f 5 (by omega) (by omega)
  obtain ⟨j, h4, h5, h6⟩ := cut5 k h2 h3
  have hl : (FN.take j).length ≤ 5 := by rw [List.length_take]; simp [FN]; omega
  have hfold := mLC_all (vs := [4]) (t := .nm 4) (tt := pure true) (fe := b__law_kinds_C1) (FN.take j) [some (.lis true [.int c1, .int f]), some (.lis false R), some (.dat n), some (.dat (.list (FN.take j))), none] (fun pre acc e => ∃ c2, e = [some (.lis true [.int c2, .int f]), some (.lis false R), some (.dat n), some (.dat (.list (FN.take j))), none] ∧ acc.map fst1 = pre ∧ (∀ x ∈ acc, ∃ f t, x = .tuple [f, t] ∧ t ∈ SO)) rfl (le_line (by omega)) ⟨c1, rfl, rfl, fun x hx => by cases hx⟩ (by
    rintro pre d rest acc e hd ⟨c2, rfl, hm, hok⟩
    obtain ⟨t, c3, g, ht⟩ := kinds_C1 c2 f R n (.list (FN.take j)) d
    refine ⟨_, true, _, rfl, rfl, fun _ => ⟨_, _, g, c3, rfl, by simp [hm, fst1], ?_⟩, fun h => by cases h⟩
    intro x hx
    rw [List.mem_append] at hx
    rcases hx with hx | hx
    · exact hok x hx
    · simp at hx; subst hx
      exact ⟨d, t, rfl, ht⟩)
  obtain ⟨acc, e', g1, ⟨c3, rfl, g2, g4⟩, g3⟩ := hfold
  refine ⟨acc, FN.take j, c3, ?_, j, h4, h5, g2, g4⟩
  have e2 : R.length < sizeLine := Nat.lt_of_lt_of_le (by omega) (le_line (n := 200) (by omega))
  rw [show FN = [.str "count", .str "title", .str "left", .str "a", .str "bb"] from rfl] at h6 g1
  simp [b__law_kinds_L1, runA, runL, runP, runC, startE, mSeq, bind_run, pure_run, M.get, M.ownL, M.peek, M.put, M.app, M.lift, M.setD, M.setL, M.tset, Tg.set, Tg.setL, M.ofRes, M.callP, M.scr, M.raise, mAnd, mOr, vAnd, vOr, mChain, asB, asI, gIx, gIsN, gNotN, gLen, gTuple, gList, items, gEnum, gZip, gSl, isStr, isInt, isBool, isTuple, isList, isDict, gEq_str, gNe_str, gEq_int, gNe_int, mkTup_ok, mkLst_ok, szOk_ok, atI_0, atI_1, atI_2, atI_3, atI_4, atI_5, le_line, M.setT, M.ownD, M.dput, M.dget, M.keysD, M.ext, M.getW, runF, M.isFn, gAdd, h1, h6, g1, e2, restoreE]
  rfl
theorem kinds_spec (c f : Int) : ∃ ks c', m__law_kinds [.int c, .int f] [] = .ok (.tuple ks, [.int c', .int f]) ∧ kindsOk ks := by
  obtain ⟨k, c1, h1, h2, h3⟩ := draw_spec c f 4 (by omega) (by omega)
  obtain ⟨j, h4, h5, h6⟩ := cut4 k h2 h3
  have hl : (NM.take j).length ≤ 4 := by rw [List.length_take]; simp [NM]; omega
  have hfold := forM_all (t := .nm 2) (b := b__law_kinds_L1) (NM.take j) [some (.lis true [.int c1, .int f]), some (.lis false []), none, none, none] (fun pre e => ∃ c2 R s2 s3, e = [some (.lis true [.int c2, .int f]), some (.lis false R), s2, s3, none] ∧ R.map fst1 = pre ∧ (∀ x ∈ R, kindOk x)) ⟨c1, [], none, none, rfl, rfl, fun x hx => by cases hx⟩ (by
    rintro pre d rest e hd ⟨c2, R, s2, s3, rfl, hm, hok⟩
    have hl2 : pre.length ≤ 4 := by have := congrArg List.length hd; simp at this; simp at hl; omega
    have hR : R.length ≤ 100 := by have := congrArg List.length hm; simp at this; omega
    obtain ⟨fs, ys, c3, g, g1⟩ := kinds_L1 c2 f R d s3 hR
    refine ⟨_, _, rfl, g, c3, _, _, _, rfl, by simp [hm, fst1], ?_⟩
    intro x hx
    rw [List.mem_append] at hx
    rcases hx with hx | hx
    · exact hok x hx
    · simp at hx; subst hx
      exact ⟨d, fs, rfl, List.mem_of_mem_take (by rw [hd]; simp : d ∈ NM.take j), g1⟩)
  obtain ⟨e', g1, c2, R, s2, s3, rfl, g2, g3⟩ := hfold
  refine ⟨R, c2, ?_, ⟨j, h4, h5, g2⟩, g3⟩
  rw [show NM = [.str "note", .str "item", .str "cat", .str "z"] from rfl] at h6 g1
  simp [m__law_kinds, b__law_kinds, runA, runL, runP, runC, startE, mSeq, bind_run, pure_run, M.get, M.ownL, M.peek, M.put, M.app, M.lift, M.setD, M.setL, M.tset, Tg.set, Tg.setL, M.ofRes, M.callP, M.scr, M.raise, mAnd, mOr, vAnd, vOr, mChain, asB, asI, gIx, gIsN, gNotN, gLen, gTuple, gList, items, gEnum, gZip, gSl, isStr, isInt, isBool, isTuple, isList, isDict, gEq_str, gNe_str, gEq_int, gNe_int, mkTup_ok, mkLst_ok, szOk_ok, atI_0, atI_1, atI_2, atI_3, atI_4, atI_5, le_line, M.setT, M.ownD, M.dput, M.dget, M.keysD, M.ext, M.getW, runF, M.isFn, gAdd, h1, h6, g1]
theorem kindsOk.ne {ks : List PyData} (h : kindsOk ks) : ks ≠ [] := by
  obtain ⟨⟨m, h1, h2, h3⟩, _⟩ := h
  rintro rfl
  have := congrArg List.length h3
  simp [NM] at this; omega
theorem kindsOk.len {ks : List PyData} (h : kindsOk ks) : ks.length ≤ 4 := by
  obtain ⟨⟨m, h1, h2, h3⟩, _⟩ := h
  have := congrArg List.length h3
  simp [NM] at this; omega
theorem fieldsOk.ne {ks : List PyData} (h : fieldsOk ks) : ks ≠ [] := by
  obtain ⟨m, h1, h2, h3, _⟩ := h
  rintro rfl
  have := congrArg List.length h3
  simp [FN] at this; omega
theorem fieldsOk.len {ks : List PyData} (h : fieldsOk ks) : ks.length ≤ 5 := by
  obtain ⟨m, h1, h2, h3, _⟩ := h
  have := congrArg List.length h3
  simp [FN] at this; omega
theorem fieldsOk.mem {fs : List PyData} (h : fieldsOk fs) {x : PyData} (hx : x ∈ fs) : ∃ f t, x = .tuple [f, t] ∧ f ∈ FN ∧ t ∈ SO := by
  obtain ⟨m, h1, h2, h3, h4⟩ := h
  obtain ⟨f, t, rfl, ht⟩ := h4 x hx
  have : f ∈ fs.map fst1 := List.mem_map.mpr ⟨_, hx, rfl⟩
  rw [h3] at this
  exact ⟨f, t, rfl, List.mem_of_mem_take this, ht⟩
def WHO : List PyData := [.str "all", .str "known", .str "own", .tuple [.str "role", .str "boss"], .tuple [.str "role", .str "aid"]]
def OPS : List PyData := [.str "see", .str "add", .str "change", .str "remove"]
def FN0 : List PyData := .str "" :: FN
def ruleOk (d : PyData) : Prop := ∃ w o k f, d = .tuple [w, o, k, f] ∧ w ∈ WHO ∧ o ∈ OPS ∧ k ∈ NM ∧ f ∈ FN0
theorem rules_L1 (c f : Int) (ks R : List PyData) (s3 s4 s5 s6 s7 : Option Sv) (hk : kindsOk ks) (hR : R.length ≤ 100) :
    ∃ r c' t4 t5 t6 t7, b__law_rules_L1 [some (.lis true [.int c, .int f]), some (.dat (.tuple ks)), some (.lis false R), s3, s4, s5, s6, s7] = .ok .nx [some (.lis true [.int c', .int f]), some (.dat (.tuple ks)), some (.lis false (R ++ [r])), s3, t4, t5, t6, t7] ∧ ruleOk r := by
  obtain ⟨d, c1, a1, a2⟩ := pick_tuple c f ks hk.ne (by have := hk.len; omega)
  obtain ⟨n, fs, rfl, b1, b2⟩ := hk.2 d a2
  have b3 := b2.len
  obtain ⟨k, c2, d1, d2, d3⟩ := draw_spec c1 f fs.length (by have := List.length_pos_iff.mpr b2.ne; omega) (by omega)
  obtain ⟨x, x1, x2⟩ := atI_nat d2 d3
  obtain ⟨fn, ty, rfl, x3, _⟩ := b2.mem x2
  obtain ⟨fl, c3, e1, e2⟩ := pick_list c2 f [.str "", .str "", fn, .str "count"] (by simp) (by simp)
  obtain ⟨wh, c4, f1, f2⟩ := pick_list c3 f [.str "all", .str "known", .str "own", .str "own", .tuple [.str "role", .str "boss"], .tuple [.str "role", .str "aid"]] (by simp) (by simp)
  obtain ⟨op, c5, g1, g2⟩ := pick_list c4 f [.str "see", .str "see", .str "see", .str "add", .str "change", .str "remove"] (by simp) (by simp)
  have q2 : R.length < sizeLine := Nat.lt_of_lt_of_le (by omega) (le_line (n := 200) (by omega))
  refine ⟨.tuple [wh, op, n, fl], c5, some (.dat n), some (.dat (.tuple fs)), some (.dat fl), some (.dat wh), ?_, wh, op, n, fl, rfl, ?_, ?_, b1, ?_⟩
  · simp [b__law_rules_L1, runA, runL, runP, runC, startE, mSeq, bind_run, pure_run, M.get, M.ownL, M.peek, M.put, M.app, M.lift, M.setD, M.setL, M.tset, Tg.set, Tg.setL, M.ofRes, M.callP, M.scr, M.raise, mAnd, mOr, vAnd, vOr, mChain, asB, asI, gIx, gIsN, gNotN, gLen, gTuple, gList, items, gEnum, gZip, gSl, isStr, isInt, isBool, isTuple, isList, isDict, gEq_str, gNe_str, gEq_int, gNe_int, mkTup_ok, mkLst_ok, szOk_ok, atI_0, atI_1, atI_2, atI_3, atI_4, atI_5, le_line, M.setT, M.ownD, M.dput, M.dget, M.keysD, M.ext, M.getW, runF, M.isFn, a1, d1, x1, e1, f1, g1, le_line, q2]
  · simpa [WHO] using f2
  · simpa [OPS] using g2
  · simp [FN0, FN] at e2 x3 ⊢
    rcases e2 with rfl | rfl | rfl <;> simp [x3]
theorem rules_spec (c f : Int) (ks : List PyData) (hk : kindsOk ks) : ∃ rs c', m__law_rules [.int c, .int f] [.tuple ks] = .ok (.tuple rs, [.int c', .int f]) ∧ rs.length ≤ 8 ∧ ∀ r ∈ rs, ruleOk r := by
  obtain ⟨k, c1, h1, h2, h3⟩ := draw_spec c f 9 (by omega) (by omega)
  have hk' : k < 2 ^ 62 ∧ -(2 ^ 62) ≤ k := by omega
  have hr : rangeD [.int k] = some ((List.range k.toNat).map fun (i : Nat) => .int i) := if_pos hk'
  have hfold := forM_all (t := .nm 3) (b := b__law_rules_L1) ((List.range k.toNat).map fun (i : Nat) => .int i) [some (.lis true [.int c1, .int f]), some (.dat (.tuple ks)), some (.lis false []), none, none, none, none, none] (fun pre e => ∃ c2 R s3 s4 s5 s6 s7, e = [some (.lis true [.int c2, .int f]), some (.dat (.tuple ks)), some (.lis false R), s3, s4, s5, s6, s7] ∧ R.length = pre.length ∧ (∀ x ∈ R, ruleOk x)) ⟨c1, [], _, _, _, _, _, rfl, rfl, fun x hx => by cases hx⟩ (by
    rintro pre d rest e hd ⟨c2, R, s3, s4, s5, s6, s7, rfl, hm, hok⟩
    have hl : pre.length ≤ 9 := by have := congrArg List.length hd; simp at this; omega
    obtain ⟨r, c3, t4, t5, t6, t7, g, g1⟩ := rules_L1 c2 f ks R (some (.dat d)) s4 s5 s6 s7 hk (by omega)
    refine ⟨_, _, rfl, g, c3, _, _, _, _, _, _, rfl, by simp [hm], ?_⟩
    intro x hx
    rw [List.mem_append] at hx
    rcases hx with hx | hx
    · exact hok x hx
    · simp at hx; subst hx; exact g1)
  obtain ⟨e', g1, c2, R, s3, s4, s5, s6, s7, rfl, g2, g3⟩ := hfold
  refine ⟨R, c2, ?_, by simp at g2; omega, g3⟩
  simp [m__law_rules, b__law_rules, runA, runL, runP, runC, startE, mSeq, bind_run, pure_run, M.get, M.ownL, M.peek, M.put, M.app, M.lift, M.setD, M.setL, M.tset, Tg.set, Tg.setL, M.ofRes, M.callP, M.scr, M.raise, mAnd, mOr, vAnd, vOr, mChain, asB, asI, gIx, gIsN, gNotN, gLen, gTuple, gList, items, gEnum, gZip, gSl, isStr, isInt, isBool, isTuple, isList, isDict, gEq_str, gNe_str, gEq_int, gNe_int, mkTup_ok, mkLst_ok, szOk_ok, atI_0, atI_1, atI_2, atI_3, atI_4, atI_5, le_line, M.setT, M.ownD, M.dput, M.dget, M.keysD, M.ext, M.getW, runF, M.isFn, hr, h1, g1, le_line]
end Lw
namespace Lw
open PySem L2 DL
def okT (r : Res PyData) : Bool := match r with
  | .ok (.bool true) => true
  | _ => false
theorem okT_eq {r : Res PyData} (h : okT r = true) : r = .ok (.bool true) := by
  unfold okT at h; split at h
  · rfl
  · cases h
theorem mLC_map {vs : List Nat} {t : Tg} {fe : M PyData} {ds : List PyData} {e : Sl} (g : PyData → PyData) (hn : noLis e vs = true) (hl : ds.length ≤ sizeLine)
    (st : ∀ d ∈ ds, ∃ e1 e3, t.set d (wipeE e vs) = some e1 ∧ fe e1 = .ok (g d) e3 ∧ wipeE e1 vs = wipeE e vs ∧ wipeE e3 vs = wipeE e vs) :
    mLC vs t (pure true) fe ds e = .ok (.list (ds.map g)) e := by
  have := mLC_pure (vs := vs) (t := t) (tt := pure true) (fe := fe) (ds := ds) (e := e) (fun _ => true) g hn hl (fun d hd => by
    obtain ⟨e1, e3, h1, h2, h3, h4⟩ := st d hd
    exact ⟨e1, e1, h1, rfl, h3, fun _ => ⟨e3, h2, h4⟩⟩)
  rw [this, List.filter_eq_self.mpr (fun _ _ => rfl)]
theorem bools_tt : ∀ ds : List PyData, bools (ds.map fun _ => .bool true) = some (ds.map fun _ => true)
  | [] => rfl
  | _ :: r => by simp [bools, bools_tt r]
theorem all_tt (ds : List PyData) : gAll [.list (ds.map fun _ => .bool true)] = some (.bool true) := by
  simp [gAll, bools_tt]
theorem unlike_ok {xs : List PyData} (h : okT (m_are_unlike [.list xs]) = true) : m_are_unlike [.list xs] = .ok (.bool true) := okT_eq h
end Lw
namespace Lw
open PySem L2 DL
def ASK : List PyData := [.none, .tuple [.str "ann", .tuple []], .tuple [.str "bob", .tuple [.str "boss"]], .tuple [.str "cy", .tuple [.str "aid", .str "boss"]], .tuple [.str "dan", .tuple [.str "aid"]]]
def KD : List PyData := .str "zz" :: NM
def OW : List PyData := [.str "", .str "ann", .str "bob", .str "cy", .str "dan", .str "zz"]
theorem who_ok : ∀ w ∈ WHO, m_is_who [w] = .ok (.bool true) := by
  have h : WHO.all (fun w => okT (m_is_who [w])) = true := by decide +kernel
  exact fun w hw => okT_eq (List.all_eq_true.mp h w hw)
theorem op_ok : ∀ w ∈ OPS, m_is_rights_deed [w] = .ok (.bool true) := by
  have h : OPS.all (fun w => okT (m_is_rights_deed [w])) = true := by decide +kernel
  exact fun w hw => okT_eq (List.all_eq_true.mp h w hw)
theorem name_ok : ∀ w ∈ KD, m_is_name [w] = .ok (.bool true) := by
  have h : KD.all (fun w => okT (m_is_name [w])) = true := by decide +kernel
  exact fun w hw => okT_eq (List.all_eq_true.mp h w hw)
theorem owner_ok : ∀ w ∈ FN0 ++ OW, m_is_owner [w] = .ok (.bool true) := by
  have h : (FN0 ++ OW).all (fun w => okT (m_is_owner [w])) = true := by decide +kernel
  exact fun w hw => okT_eq (List.all_eq_true.mp h w hw)
theorem nm_kd {d : PyData} (h : d ∈ NM) : d ∈ KD := List.mem_cons_of_mem _ h
theorem rule_ok {r : PyData} (h : ruleOk r) : m_is_rule [r] = .ok (.bool true) := by
  obtain ⟨w, o, k, f, rfl, h1, h2, h3, h4⟩ := h
  have g1 : m_is_shaped [.tuple [w, o, k, f], .int 4] = .ok (.bool true) := by simp [m_is_shaped, b_is_shaped, runA, runL, runP, runC, startE, mSeq, bind_run, pure_run, M.get, M.ownL, M.peek, M.put, M.app, M.lift, M.setD, M.setL, M.tset, Tg.set, Tg.setL, M.ofRes, M.callP, M.scr, M.raise, mAnd, mOr, vAnd, vOr, mChain, asB, asI, gIx, gIsN, gNotN, gLen, gTuple, gList, items, gEnum, gZip, gSl, isStr, isInt, isBool, isTuple, isList, isDict, gEq_str, gNe_str, gEq_int, gNe_int, mkTup_ok, mkLst_ok, szOk_ok, atI_0, atI_1, atI_2, atI_3, atI_4, atI_5, le_line, M.setT, M.ownD, M.dput, M.dget, M.keysD, M.ext, M.getW, runF, M.isFn]
  simp [m_is_rule, b_is_rule, runA, runL, runP, runC, startE, mSeq, bind_run, pure_run, M.get, M.ownL, M.peek, M.put, M.app, M.lift, M.setD, M.setL, M.tset, Tg.set, Tg.setL, M.ofRes, M.callP, M.scr, M.raise, mAnd, mOr, vAnd, vOr, mChain, asB, asI, gIx, gIsN, gNotN, gLen, gTuple, gList, items, gEnum, gZip, gSl, isStr, isInt, isBool, isTuple, isList, isDict, gEq_str, gNe_str, gEq_int, gNe_int, mkTup_ok, mkLst_ok, szOk_ok, atI_0, atI_1, atI_2, atI_3, atI_4, atI_5, le_line, M.setT, M.ownD, M.dput, M.dget, M.keysD, M.ext, M.getW, runF, M.isFn, g1, who_ok w h1, op_ok o h2, name_ok k (nm_kd h3), owner_ok f (by simp [h4])]
theorem rules_ok {rs : List PyData} (hl : rs.length ≤ 12) (h : ∀ r ∈ rs, ruleOk r) : m_are_rules [.tuple rs] = .ok (.bool true) := by
  have c1 := mLC_map (vs := [1]) (t := .nm 1) (fe := b_are_rules_C1) (ds := rs) (e := [some (.dat (.tuple rs)), none]) (fun _ => .bool true) rfl (le_line (by omega)) (fun d hd => by
    refine ⟨_, [some (.dat (.tuple rs)), some (.dat d)], rfl, ?_, rfl, rfl⟩
    simp [b_are_rules_C1, wipeE, runA, runL, runP, runC, startE, mSeq, bind_run, pure_run, M.get, M.ownL, M.peek, M.put, M.app, M.lift, M.setD, M.setL, M.tset, Tg.set, Tg.setL, M.ofRes, M.callP, M.scr, M.raise, mAnd, mOr, vAnd, vOr, mChain, asB, asI, gIx, gIsN, gNotN, gLen, gTuple, gList, items, gEnum, gZip, gSl, isStr, isInt, isBool, isTuple, isList, isDict, gEq_str, gNe_str, gEq_int, gNe_int, mkTup_ok, mkLst_ok, szOk_ok, atI_0, atI_1, atI_2, atI_3, atI_4, atI_5, le_line, M.setT, M.ownD, M.dput, M.dget, M.keysD, M.ext, M.getW, runF, M.isFn, rule_ok (h d hd)])
  have h12 : (rs.length : Int) ≤ 12 := by omega
  simp [m_are_rules, b_are_rules, runA, runL, runP, runC, startE, mSeq, bind_run, pure_run, M.get, M.ownL, M.peek, M.put, M.app, M.lift, M.setD, M.setL, M.tset, Tg.set, Tg.setL, M.ofRes, M.callP, M.scr, M.raise, mAnd, mOr, vAnd, vOr, mChain, asB, asI, gIx, gIsN, gNotN, gLen, gTuple, gList, items, gEnum, gZip, gSl, isStr, isInt, isBool, isTuple, isList, isDict, gEq_str, gNe_str, gEq_int, gNe_int, mkTup_ok, mkLst_ok, szOk_ok, atI_0, atI_1, atI_2, atI_3, atI_4, atI_5, le_line, M.setT, M.ownD, M.dput, M.dget, M.keysD, M.ext, M.getW, runF, M.isFn, c1, all_tt, gLe, gCmpI, h12, c_MOST_RULES]
/-! ### whom a rule is for -/
def forB (w a o : PyData) : Bool := match m_is_for [w, a, o] with
  | .ok (.bool b) => b
  | _ => false
def isB (r : Res PyData) : Bool := match r with
  | .ok (.bool _) => true
  | _ => false
theorem for_ok (w a o : PyData) (hw : w ∈ WHO) (ha : a ∈ ASK) (ho : o ∈ OW) : m_is_for [w, a, o] = .ok (.bool (forB w a o)) := by
  have h : WHO.all (fun w => ASK.all fun a => OW.all fun o => isB (m_is_for [w, a, o])) = true := by decide +kernel
  have h1 := List.all_eq_true.mp (List.all_eq_true.mp (List.all_eq_true.mp h w hw) a ha) o ho
  unfold isB at h1; unfold forB
  split at h1
  · rename_i b e; rw [e]
  · cases h1
/-! ### the two searches -/
def hit (a o k f w : PyData) (d : PyData) : Bool := match d with
  | .tuple [_, .tuple [rw, ro, rk, rf]] => (PyData.eqv ro o && PyData.eqv rk k) && (PyData.eqv (.str "") rf || PyData.eqv f rf) && forB rw a w
  | _ => false
def num (d : PyData) : PyData := match d with
  | .tuple [i, _] => i
  | _ => .none
theorem enum_mem {xs : List PyData} {d : PyData} (h : d ∈ enumD xs) : ∃ (i : Nat) (x : PyData), d = .tuple [.int i, x] ∧ x ∈ xs ∧ i < xs.length := by
  obtain ⟨n, hn⟩ := List.mem_iff_getElem?.mp h
  obtain ⟨x, h1, rfl⟩ := enumD_get hn
  exact ⟨n, x, rfl, List.mem_of_getElem? h1, (List.getElem?_eq_some_iff.mp h1).1⟩
theorem str_of {d : PyData} (h : d ∈ OPS ++ KD ++ FN0 ++ OW) : ∃ s, d = .str s := by
  have q : ∀ x ∈ OPS ++ KD ++ FN0 ++ OW, (match x with | .str _ => true | _ => false) = true := List.all_eq_true.mp (by decide +kernel)
  have := q d h
  split at this
  · exact ⟨_, rfl⟩
  · cases this
theorem gEq2 (a b c d : Str) : gEq (.tuple [.str a, .str b]) (.tuple [.str c, .str d]) = some (.bool (PyData.eqv (.str a) (.str c) && PyData.eqv (.str b) (.str d))) := by
  rw [gEq_of (by simp [simple, noDict, noDicts, PyData.depth, PyData.depthAll]) (by simp [simple, noDict, noDicts, PyData.depth, PyData.depthAll])]
  simp [PyData.eqv, PyData.eqvAll]
theorem gEq2s (a b c : Str) : gEq (.tuple [.str a, .str b]) (.str c) = some (.bool false) := by
  rw [gEq_of (by simp [simple, noDict, noDicts, PyData.depth, PyData.depthAll]) (simple_str c)]
  simp [PyData.eqv]
def found (rs : List PyData) (a o k f w : PyData) : PyData := match (enumD rs).find? (hit a o k f w) with
  | some d => num d
  | none => .none
theorem let_by_spec (rs : List PyData) (hr : ∀ r ∈ rs, ruleOk r) (a w : PyData) (o k f : Str) (ha : a ∈ ASK) (hw : w ∈ OW) : m_let_by [.tuple rs, a, .str o, .str k, .str f, w] = .ok (found rs a (.str o) (.str k) (.str f) w) := by
  obtain ⟨e', h1, s6, s7, s8, s9, s10, rfl⟩ := forM_find (t := (.tp [(.nm 6), (.tp [(.nm 7), (.nm 8), (.nm 9), (.nm 10)])])) (b := b_let_by_L1) (fun e => ∃ s6 s7 s8 s9 s10, e = [some (.dat (.tuple rs)), some (.dat a), some (.dat (.str o)), some (.dat (.str k)), some (.dat (.str f)), some (.dat w), s6, s7, s8, s9, s10]) (hit a (.str o) (.str k) (.str f) w) num (enumD rs) [some (.dat (.tuple rs)), some (.dat a), some (.dat (.str o)), some (.dat (.str k)), some (.dat (.str f)), some (.dat w), none, none, none, none, none] ⟨_, _, _, _, _, rfl⟩ (by
    rintro d hd e ⟨s6, s7, s8, s9, s10, rfl⟩
    obtain ⟨i, r, rfl, hi, _⟩ := enum_mem hd
    obtain ⟨rw, ro, rk, rf, rfl, q1, q2, q3, q4⟩ := hr r hi
    obtain ⟨so, rfl⟩ := str_of (d := ro) (by simp [q2])
    obtain ⟨sk, rfl⟩ := str_of (d := rk) (by simp [nm_kd q3])
    obtain ⟨sf, rfl⟩ := str_of (d := rf) (by simp [q4])
    refine ⟨[some (.dat (.tuple rs)), some (.dat a), some (.dat (.str o)), some (.dat (.str k)), some (.dat (.str f)), some (.dat w), some (.dat (.int i)), some (.dat rw), some (.dat (.str so)), some (.dat (.str sk)), some (.dat (.str sf))], [some (.dat (.tuple rs)), some (.dat a), some (.dat (.str o)), some (.dat (.str k)), some (.dat (.str f)), some (.dat w), some (.dat (.int i)), some (.dat rw), some (.dat (.str so)), some (.dat (.str sk)), some (.dat (.str sf))], rfl, ?_, _, _, _, _, _, rfl⟩
    have q := for_ok rw a w q1 ha hw
    simp only [hit, num]
    rcases Bool.eq_false_or_eq_true (PyData.eqv (.str so) (.str o) && PyData.eqv (.str sk) (.str k)) with c1 | c1 <;> rcases Bool.eq_false_or_eq_true (PyData.eqv (.str "") (.str sf) || PyData.eqv (.str f) (.str sf)) with c2 | c2 <;> rcases Bool.eq_false_or_eq_true (forB rw a w) with c3 | c3 <;> simp [b_let_by_L1, runA, runL, runP, runC, startE, mSeq, bind_run, pure_run, M.get, M.ownL, M.peek, M.put, M.app, M.lift, M.setD, M.setL, M.tset, Tg.set, Tg.setL, M.ofRes, M.callP, M.scr, M.raise, mAnd, mOr, vAnd, vOr, mChain, asB, asI, gIx, gIsN, gNotN, gLen, gTuple, gList, items, gEnum, gZip, gSl, isStr, isInt, isBool, isTuple, isList, isDict, gEq_str, gNe_str, gEq_int, gNe_int, mkTup_ok, mkLst_ok, szOk_ok, atI_0, atI_1, atI_2, atI_3, atI_4, atI_5, le_line, M.setT, M.ownD, M.dput, M.dget, M.keysD, M.ext, M.getW, runF, M.isFn, gEq2, c1, c2, c3, q, gInB, orG, gIn, gInL, flat, -Bool.and_eq_false_imp, -Bool.and_eq_true, -Bool.or_eq_true])
  have h2 : m_let_by [.tuple rs, a, .str o, .str k, .str f, w] = .ok (found rs a (.str o) (.str k) (.str f) w) := by
    unfold found
    cases hf : (enumD rs).find? (hit a (.str o) (.str k) (.str f) w) with
    | some d => rw [hf] at h1; simp [m_let_by, b_let_by, runA, runL, runP, runC, startE, mSeq, bind_run, pure_run, M.get, M.ownL, M.peek, M.put, M.app, M.lift, M.setD, M.setL, M.tset, Tg.set, Tg.setL, M.ofRes, M.callP, M.scr, M.raise, mAnd, mOr, vAnd, vOr, mChain, asB, asI, gIx, gIsN, gNotN, gLen, gTuple, gList, items, gEnum, gZip, gSl, isStr, isInt, isBool, isTuple, isList, isDict, gEq_str, gNe_str, gEq_int, gNe_int, mkTup_ok, mkLst_ok, szOk_ok, atI_0, atI_1, atI_2, atI_3, atI_4, atI_5, le_line, M.setT, M.ownD, M.dput, M.dget, M.keysD, M.ext, M.getW, runF, M.isFn, h1]
    | none => rw [hf] at h1; simp [m_let_by, b_let_by, runA, runL, runP, runC, startE, mSeq, bind_run, pure_run, M.get, M.ownL, M.peek, M.put, M.app, M.lift, M.setD, M.setL, M.tset, Tg.set, Tg.setL, M.ofRes, M.callP, M.scr, M.raise, mAnd, mOr, vAnd, vOr, mChain, asB, asI, gIx, gIsN, gNotN, gLen, gTuple, gList, items, gEnum, gZip, gSl, isStr, isInt, isBool, isTuple, isList, isDict, gEq_str, gNe_str, gEq_int, gNe_int, mkTup_ok, mkLst_ok, szOk_ok, atI_0, atI_1, atI_2, atI_3, atI_4, atI_5, le_line, M.setT, M.ownD, M.dput, M.dget, M.keysD, M.ext, M.getW, runF, M.isFn, h1]
  exact h2
/-- the place of the first that p holds of -/
def plc (o : Option Nat) : PyData := match o with
  | some i => .int i
  | none => .none
def hitR (a o k f w : PyData) (r : PyData) : Bool := match r with
  | .tuple [rw, ro, rk, rf] => (PyData.eqv ro o && PyData.eqv rk k) && (PyData.eqv (.str "") rf || PyData.eqv f rf) && forB rw a w
  | _ => false
theorem found_go (a o k f w : PyData) : ∀ (rs : List PyData) (n : Nat), (match ((rs.zipIdx n).map fun p => PyData.tuple [.int p.2, p.1]).find? (hit a o k f w) with | some d => num d | none => .none) = plc ((rs.findIdx? (hitR a o k f w)).map (· + n))
  | [], n => rfl
  | r :: rs, n => by
    have e : hit a o k f w (.tuple [.int n, r]) = hitR a o k f w r := by
      unfold hit hitR
      cases r with
      | tuple xs =>
        match xs with
        | [] => rfl
        | [_] => rfl
        | [_, _] => rfl
        | [_, _, _] => rfl
        | [_, _, _, _] => rfl
        | _ :: _ :: _ :: _ :: _ :: _ => rfl
      | _ => rfl
    simp only [List.zipIdx_cons, List.map_cons]
    by_cases h : hitR a o k f w r = true
    · rw [List.find?_cons_of_pos (by rw [e]; exact h), List.findIdx?_cons, if_pos h]
      simp [num, plc]
    · rw [List.find?_cons_of_neg (by rw [e]; exact h), List.findIdx?_cons, if_neg h, found_go a o k f w rs (n + 1)]
      cases rs.findIdx? (hitR a o k f w) with
      | none => rfl
      | some i => simp [plc]; omega
theorem found_eq (rs : List PyData) (a o k f w : PyData) : found rs a o k f w = plc (rs.findIdx? (hitR a o k f w)) := by
  have := found_go a o k f w rs 0
  unfold found enumD
  rw [this]
  cases rs.findIdx? (hitR a o k f w) <;> rfl
end Lw
namespace Lw
open PySem L2 DL
/-! ### people and their ways -/
def pAnn : PyData := .tuple [.str "ann", .str "pw", .tuple []]
def pBob : PyData := .tuple [.str "bob", .str "b1", .tuple [.str "boss"]]
def pCy : PyData := .tuple [.str "cy", .str "c", .tuple [.str "aid", .str "boss"]]
def pDan : PyData := .tuple [.str "dan", .str "d-", .tuple [.str "aid"]]
def FOUR : List PyData := [pAnn, pBob, pCy, pDan]
def subs : List PyData → List (List PyData)
  | [] => [[]]
  | x :: r => subs r ++ (subs r).map (x :: ·)
theorem subs_mem : ∀ {l m : List PyData}, m.Sublist l → m ∈ subs l
  | [], m, h => by rw [List.sublist_nil.mp h]; simp [subs]
  | x :: r, m, h => by
    cases h with
    | cons _ h => exact List.mem_append_left _ (subs_mem h)
    | cons_cons _ h => exact List.mem_append_right _ (List.mem_map.mpr ⟨_, subs_mem h, rfl⟩)
theorem subs_sub : ∀ {l m : List PyData}, m ∈ subs l → m.Sublist l
  | [], m, h => by simp [subs] at h; rw [h]; exact List.Sublist.refl _
  | x :: r, m, h => by
    rcases List.mem_append.mp h with h | h
    · exact (subs_sub h).cons x
    · obtain ⟨m', h', rfl⟩ := List.mem_map.mp h
      exact (subs_sub h').cons_cons x
def PSS : List (List PyData) := subs FOUR
theorem people_ok {ps : List PyData} (h : ps ∈ PSS) : m_are_people [.tuple ps] = .ok (.bool true) := by
  have q : PSS.all (fun w => okT (m_are_people [.tuple w])) = true := by decide +kernel
  exact okT_eq (List.all_eq_true.mp q ps h)
def wayOf : PyData → List PyData
  | .tuple [n, _, rl] => [.tuple [.tuple [n, rl], .str ""], .tuple [.tuple [n, rl], n]]
  | _ => []
def Wd (ps : List PyData) : List PyData := .tuple [.none, .str ""] :: ps.flatMap wayOf
def wOk : PyData → Bool
  | .tuple [a, w] => ASK.any (PyData.eqv a) && OW.any (PyData.eqv w)
  | _ => false
theorem pers {ps : List PyData} (h : ps ∈ PSS) : ps.length ≤ 4 ∧ ∀ p ∈ ps, p = pAnn ∨ p = pBob ∨ p = pCy ∨ p = pDan := by
  have q := subs_sub h
  refine ⟨q.length_le, fun p hp => ?_⟩
  have := q.subset hp
  simpa [FOUR] using this
theorem way_ok {ps : List PyData} (h : ps ∈ PSS) {d : PyData} (hd : d ∈ Wd ps) : ∃ a w, d = .tuple [a, w] ∧ a ∈ ASK ∧ w ∈ OW := by
  unfold Wd at hd
  rcases List.mem_cons.mp hd with rfl | hd
  · exact ⟨_, _, rfl, by simp [ASK], by simp [OW]⟩
  · obtain ⟨p, hp, hd⟩ := List.mem_flatMap.mp hd
    rcases (pers h).2 p hp with rfl | rfl | rfl | rfl
    · simp only [pAnn, wayOf, List.mem_cons, List.not_mem_nil, or_false] at hd
      rcases hd with rfl | rfl <;> exact ⟨_, _, rfl, by simp [ASK], by simp [OW]⟩
    · simp only [pBob, wayOf, List.mem_cons, List.not_mem_nil, or_false] at hd
      rcases hd with rfl | rfl <;> exact ⟨_, _, rfl, by simp [ASK], by simp [OW]⟩
    · simp only [pCy, wayOf, List.mem_cons, List.not_mem_nil, or_false] at hd
      rcases hd with rfl | rfl <;> exact ⟨_, _, rfl, by simp [ASK], by simp [OW]⟩
    · simp only [pDan, wayOf, List.mem_cons, List.not_mem_nil, or_false] at hd
      rcases hd with rfl | rfl <;> exact ⟨_, _, rfl, by simp [ASK], by simp [OW]⟩
def rDeed : PyData → PyData
  | .tuple [_, o, _, _] => o
  | d => d
def rKind : PyData → PyData
  | .tuple [_, _, k, _] => k
  | d => d
def rFld : PyData → PyData
  | .tuple [_, _, _, f] => f
  | d => d
/-- the rule at i is the first that lets what it tells, by this way -/
def byWay (rs : List PyData) (i : Nat) (r : PyData) : PyData → Bool
  | .tuple [a, w] => rs.findIdx? (hitR a (rDeed r) (rKind r) (rFld r) w) == some i
  | _ => false
def nb (rs W : List PyData) : PyData → Bool
  | .tuple [.int i, r] => !(W.any (byWay rs i.toNat r))
  | _ => false
def NB (rs W : List PyData) : List PyData := ((enumD rs).filter (nb rs W)).map num
theorem plc_eq (o : Option Nat) (i : Nat) : gEq (plc o) (.int i) = some (.bool (o == some i)) := by
  cases o with
  | none =>
    rw [show plc none = .none from rfl, gEq_of simple_none (simple_int _)]
    simp [PyData.eqv]
  | some j =>
    rw [show plc (some j) = .int j from rfl, gEq_int]
    congr 2
    rw [Bool.eq_iff_iff]
    simp
    omega
theorem let_idx (rs : List PyData) (hr : ∀ r ∈ rs, ruleOk r) (a w o k f : PyData) (ha : a ∈ ASK) (hw : w ∈ OW) (ho : ∃ s, o = .str s) (hk : ∃ s, k = .str s) (hf : ∃ s, f = .str s) : m_let_by [.tuple rs, a, o, k, f, w] = .ok (plc (rs.findIdx? (hitR a o k f w))) := by
  obtain ⟨so, rfl⟩ := ho
  obtain ⟨sk, rfl⟩ := hk
  obtain ⟨sf, rfl⟩ := hf
  rw [let_by_spec rs hr a w so sk sf ha hw, found_eq]
theorem rule_strs {r : PyData} (h : ruleOk r) : ∃ w o k f, r = .tuple [w, .str o, .str k, .str f] ∧ .str o ∈ OPS ∧ .str k ∈ NM ∧ .str f ∈ FN0 := by
  obtain ⟨w, o, k, f, rfl, q1, q2, q3, q4⟩ := h
  obtain ⟨so, rfl⟩ := str_of (d := o) (by simp [q2])
  obtain ⟨sk, rfl⟩ := str_of (d := k) (by simp [nm_kd q3])
  obtain ⟨sf, rfl⟩ := str_of (d := f) (by simp [q4])
  exact ⟨w, so, sk, sf, rfl, q2, q3, q4⟩
theorem bools_map (g : PyData → Bool) : ∀ ds : List PyData, bools (ds.map fun d => .bool (g d)) = some (ds.map g)
  | [] => rfl
  | _ :: r => by simp [bools, bools_map g r]
theorem nobody_L2 (rs ps : List PyData) (hr : ∀ r ∈ rs, ruleOk r) (hp : ps ∈ PSS) (acc : List PyData) (hl : acc.length ≤ 100) (i : Nat) (r : PyData) (hm : r ∈ rs) (s3 s4 s5 : Option Sv) (rw o k f : PyData) (e : r = .tuple [rw, o, k, f]) (sW : Option Sv) (hW : sW = some (.lis false (Wd ps)) ∨ sW = some (.dat (.list (Wd ps)))) :
    b_nobody_L2 [some (.dat (.tuple rs)), some (.dat (.tuple ps)), sW, s3, s4, s5, some (.lis false acc), some (.dat (.int i)), some (.dat rw), some (.dat o), some (.dat k), some (.dat f), none, none] = .ok .nx [some (.dat (.tuple rs)), some (.dat (.tuple ps)), some (.dat (.list (Wd ps))), s3, s4, s5, some (.lis false (acc ++ (if nb rs (Wd ps) (.tuple [.int i, r]) = true then [.int i] else []))), some (.dat (.int i)), some (.dat rw), some (.dat o), some (.dat k), some (.dat f), none, none] := by
  subst e
  obtain ⟨w', so, sk, sf, e, _, _, _⟩ := rule_strs (hr _ hm)
  cases e
  have hWl : (Wd ps).length ≤ 100 := by
    have := (pers hp).1
    have h2 : (ps.flatMap wayOf).length ≤ 2 * ps.length := by
      clear this hp hW hl hm
      induction ps with
      | nil => simp
      | cons p ps ih =>
        rw [List.flatMap_cons, List.length_append, List.length_cons]
        have : (wayOf p).length ≤ 2 := by unfold wayOf; split <;> simp
        omega
    unfold Wd; rw [List.length_cons]; omega
  have c1 := mLC_map (vs := [12, 13]) (t := .tp [.nm 12, .nm 13]) (fe := b_nobody_C1) (ds := Wd ps) (e := [some (.dat (.tuple rs)), some (.dat (.tuple ps)), some (.dat (.list (Wd ps))), s3, s4, s5, some (.lis false acc), some (.dat (.int i)), some (.dat rw), some (.dat (.str so)), some (.dat (.str sk)), some (.dat (.str sf)), none, none]) (fun d => .bool (byWay rs i (.tuple [rw, .str so, .str sk, .str sf]) d)) rfl (le_line (by omega)) (fun d hd => by
    obtain ⟨a, w, rfl, ha, hw⟩ := way_ok hp hd
    refine ⟨[some (.dat (.tuple rs)), some (.dat (.tuple ps)), some (.dat (.list (Wd ps))), s3, s4, s5, some (.lis false acc), some (.dat (.int i)), some (.dat rw), some (.dat (.str so)), some (.dat (.str sk)), some (.dat (.str sf)), some (.dat a), some (.dat w)], [some (.dat (.tuple rs)), some (.dat (.tuple ps)), some (.dat (.list (Wd ps))), s3, s4, s5, some (.lis false acc), some (.dat (.int i)), some (.dat rw), some (.dat (.str so)), some (.dat (.str sk)), some (.dat (.str sf)), some (.dat a), some (.dat w)], rfl, ?_, rfl, rfl⟩
    have q := let_idx rs hr a w (.str so) (.str sk) (.str sf) ha hw ⟨_, rfl⟩ ⟨_, rfl⟩ ⟨_, rfl⟩
    simp [b_nobody_C1, runA, runL, runP, runC, startE, mSeq, bind_run, pure_run, M.get, M.ownL, M.peek, M.put, M.app, M.lift, M.setD, M.setL, M.tset, Tg.set, Tg.setL, M.ofRes, M.callP, M.scr, M.raise, mAnd, mOr, vAnd, vOr, mChain, asB, asI, gIx, gIsN, gNotN, gLen, gTuple, gList, items, gEnum, gZip, gSl, isStr, isInt, isBool, isTuple, isList, isDict, gEq_str, gNe_str, gEq_int, gNe_int, mkTup_ok, mkLst_ok, szOk_ok, atI_0, atI_1, atI_2, atI_3, atI_4, atI_5, le_line, M.setT, M.ownD, M.dput, M.dget, M.keysD, M.ext, M.getW, runF, M.isFn, q, plc_eq, byWay, rDeed, rKind, rFld])
  have ga : gAny [.list ((Wd ps).map fun d => .bool (byWay rs i (.tuple [rw, .str so, .str sk, .str sf]) d))] = some (.bool ((Wd ps).any (byWay rs i (.tuple [rw, .str so, .str sk, .str sf])))) := by
    simp [gAny, bools_map]
  have hlt : acc.length < sizeLine := Nat.lt_of_lt_of_le (by omega) (le_line (n := 200) (by omega))
  have hn : nb rs (Wd ps) (.tuple [.int i, .tuple [rw, .str so, .str sk, .str sf]]) = !((Wd ps).any (byWay rs i (.tuple [rw, .str so, .str sk, .str sf]))) := by
    simp [nb]
  rw [hn]
  rcases hW with rfl | rfl <;> rcases Bool.eq_false_or_eq_true ((Wd ps).any (byWay rs i (.tuple [rw, .str so, .str sk, .str sf]))) with c | c <;> rw [c] at ga <;> simp [b_nobody_L2, runA, runL, runP, runC, startE, mSeq, bind_run, pure_run, M.get, M.ownL, M.peek, M.put, M.app, M.lift, M.setD, M.setL, M.tset, Tg.set, Tg.setL, M.ofRes, M.callP, M.scr, M.raise, mAnd, mOr, vAnd, vOr, mChain, asB, asI, gIx, gIsN, gNotN, gLen, gTuple, gList, items, gEnum, gZip, gSl, isStr, isInt, isBool, isTuple, isList, isDict, gEq_str, gNe_str, gEq_int, gNe_int, mkTup_ok, mkLst_ok, szOk_ok, atI_0, atI_1, atI_2, atI_3, atI_4, atI_5, le_line, M.setT, M.ownD, M.dput, M.dget, M.keysD, M.ext, M.getW, runF, M.isFn, c1, ga, c, hlt]
theorem nobody_spec (rs ps : List PyData) (hl : rs.length ≤ 12) (hr : ∀ r ∈ rs, ruleOk r) (hp : ps ∈ PSS) : m_nobody [.tuple rs, .tuple ps] = .ok (.tuple (NB rs (Wd ps))) := by
  have n1 : m_need_rules [.tuple rs] = .ok .none := by simp [m_need_rules, b_need_rules, runA, runL, runP, runC, startE, mSeq, bind_run, pure_run, M.get, M.ownL, M.peek, M.put, M.app, M.lift, M.setD, M.setL, M.tset, Tg.set, Tg.setL, M.ofRes, M.callP, M.scr, M.raise, mAnd, mOr, vAnd, vOr, mChain, asB, asI, gIx, gIsN, gNotN, gLen, gTuple, gList, items, gEnum, gZip, gSl, isStr, isInt, isBool, isTuple, isList, isDict, gEq_str, gNe_str, gEq_int, gNe_int, mkTup_ok, mkLst_ok, szOk_ok, atI_0, atI_1, atI_2, atI_3, atI_4, atI_5, le_line, M.setT, M.ownD, M.dput, M.dget, M.keysD, M.ext, M.getW, runF, M.isFn, rules_ok hl hr]
  have n2 := people_ok hp
  have hp3 := pers hp
  obtain ⟨e', g1, s3, s4, s5, rfl⟩ := forM_all (t := .tp [.nm 3, .nm 4, .nm 5]) (b := b_nobody_L1) ps [some (.dat (.tuple rs)), some (.dat (.tuple ps)), some (.lis false [.tuple [.none, .str ""]]), none, none, none, none, none, none, none, none, none, none, none] (fun pre e => ∃ s3 s4 s5, e = [some (.dat (.tuple rs)), some (.dat (.tuple ps)), some (.lis false (Wd pre)), s3, s4, s5, none, none, none, none, none, none, none, none]) ⟨_, _, _, rfl⟩ (by
    rintro pre d rest e hd ⟨s3, s4, s5, rfl⟩
    have hpl : pre.length ≤ 4 := by have := congrArg List.length hd; simp at this; have := hp3.1; omega
    have hwl : (Wd pre).length ≤ 100 := by
      have h2 : ∀ qs : List PyData, (qs.flatMap wayOf).length ≤ 2 * qs.length := by
        intro qs
        induction qs with
        | nil => simp
        | cons p ps ih =>
          rw [List.flatMap_cons, List.length_append, List.length_cons]
          have : (wayOf p).length ≤ 2 := by unfold wayOf; split <;> simp
          omega
      have := h2 pre
      unfold Wd; rw [List.length_cons]; omega
    have hz : (Wd pre).length + 2 ≤ sizeLine := le_line (by omega)
    have hw : Wd (pre ++ [d]) = Wd pre ++ wayOf d := by unfold Wd; simp
    rcases hp3.2 d (by rw [hd]; simp) with rfl | rfl | rfl | rfl
    · refine ⟨_, [some (.dat (.tuple rs)), some (.dat (.tuple ps)), some (.lis false (Wd pre ++ wayOf pAnn)), some (.dat (.str "ann")), some (.dat (.str "pw")), some (.dat (.tuple [])), none, none, none, none, none, none, none, none], rfl, ?_, _, _, _, by rw [hw]⟩
      simp [b_nobody_L1, runA, runL, runP, runC, startE, mSeq, bind_run, pure_run, M.get, M.ownL, M.peek, M.put, M.app, M.lift, M.setD, M.setL, M.tset, Tg.set, Tg.setL, M.ofRes, M.callP, M.scr, M.raise, mAnd, mOr, vAnd, vOr, mChain, asB, asI, gIx, gIsN, gNotN, gLen, gTuple, gList, items, gEnum, gZip, gSl, isStr, isInt, isBool, isTuple, isList, isDict, gEq_str, gNe_str, gEq_int, gNe_int, mkTup_ok, mkLst_ok, szOk_ok, atI_0, atI_1, atI_2, atI_3, atI_4, atI_5, le_line, M.setT, M.ownD, M.dput, M.dget, M.keysD, M.ext, M.getW, runF, M.isFn, hz, wayOf, pAnn]
    · refine ⟨_, [some (.dat (.tuple rs)), some (.dat (.tuple ps)), some (.lis false (Wd pre ++ wayOf pBob)), some (.dat (.str "bob")), some (.dat (.str "b1")), some (.dat (.tuple [.str "boss"])), none, none, none, none, none, none, none, none], rfl, ?_, _, _, _, by rw [hw]⟩
      simp [b_nobody_L1, runA, runL, runP, runC, startE, mSeq, bind_run, pure_run, M.get, M.ownL, M.peek, M.put, M.app, M.lift, M.setD, M.setL, M.tset, Tg.set, Tg.setL, M.ofRes, M.callP, M.scr, M.raise, mAnd, mOr, vAnd, vOr, mChain, asB, asI, gIx, gIsN, gNotN, gLen, gTuple, gList, items, gEnum, gZip, gSl, isStr, isInt, isBool, isTuple, isList, isDict, gEq_str, gNe_str, gEq_int, gNe_int, mkTup_ok, mkLst_ok, szOk_ok, atI_0, atI_1, atI_2, atI_3, atI_4, atI_5, le_line, M.setT, M.ownD, M.dput, M.dget, M.keysD, M.ext, M.getW, runF, M.isFn, hz, wayOf, pBob]
    · refine ⟨_, [some (.dat (.tuple rs)), some (.dat (.tuple ps)), some (.lis false (Wd pre ++ wayOf pCy)), some (.dat (.str "cy")), some (.dat (.str "c")), some (.dat (.tuple [.str "aid", .str "boss"])), none, none, none, none, none, none, none, none], rfl, ?_, _, _, _, by rw [hw]⟩
      simp [b_nobody_L1, runA, runL, runP, runC, startE, mSeq, bind_run, pure_run, M.get, M.ownL, M.peek, M.put, M.app, M.lift, M.setD, M.setL, M.tset, Tg.set, Tg.setL, M.ofRes, M.callP, M.scr, M.raise, mAnd, mOr, vAnd, vOr, mChain, asB, asI, gIx, gIsN, gNotN, gLen, gTuple, gList, items, gEnum, gZip, gSl, isStr, isInt, isBool, isTuple, isList, isDict, gEq_str, gNe_str, gEq_int, gNe_int, mkTup_ok, mkLst_ok, szOk_ok, atI_0, atI_1, atI_2, atI_3, atI_4, atI_5, le_line, M.setT, M.ownD, M.dput, M.dget, M.keysD, M.ext, M.getW, runF, M.isFn, hz, wayOf, pCy]
    · refine ⟨_, [some (.dat (.tuple rs)), some (.dat (.tuple ps)), some (.lis false (Wd pre ++ wayOf pDan)), some (.dat (.str "dan")), some (.dat (.str "d-")), some (.dat (.tuple [.str "aid"])), none, none, none, none, none, none, none, none], rfl, ?_, _, _, _, by rw [hw]⟩
      simp [b_nobody_L1, runA, runL, runP, runC, startE, mSeq, bind_run, pure_run, M.get, M.ownL, M.peek, M.put, M.app, M.lift, M.setD, M.setL, M.tset, Tg.set, Tg.setL, M.ofRes, M.callP, M.scr, M.raise, mAnd, mOr, vAnd, vOr, mChain, asB, asI, gIx, gIsN, gNotN, gLen, gTuple, gList, items, gEnum, gZip, gSl, isStr, isInt, isBool, isTuple, isList, isDict, gEq_str, gNe_str, gEq_int, gNe_int, mkTup_ok, mkLst_ok, szOk_ok, atI_0, atI_1, atI_2, atI_3, atI_4, atI_5, le_line, M.setT, M.ownD, M.dput, M.dget, M.keysD, M.ext, M.getW, runF, M.isFn, hz, wayOf, pDan])
  obtain ⟨e', g2, sW, t7, t8, t9, t10, t11, hW, rfl⟩ := forM_all (t := .tp [(.nm 7), (.tp [(.nm 8), (.nm 9), (.nm 10), (.nm 11)])]) (b := b_nobody_L2) (enumD rs) [some (.dat (.tuple rs)), some (.dat (.tuple ps)), some (.lis false (Wd ps)), s3, s4, s5, some (.lis false []), none, none, none, none, none, none, none] (fun pre e => ∃ sW t7 t8 t9 t10 t11, (sW = some (.lis false (Wd ps)) ∨ sW = some (.dat (.list (Wd ps)))) ∧ e = [some (.dat (.tuple rs)), some (.dat (.tuple ps)), sW, s3, s4, s5, some (.lis false ((pre.filter (nb rs (Wd ps))).map num)), t7, t8, t9, t10, t11, none, none]) ⟨_, _, _, _, _, _, .inl rfl, rfl⟩ (by
    rintro pre d rest e hd ⟨sW, t7, t8, t9, t10, t11, hW, rfl⟩
    obtain ⟨i, r, rfl, hi, _⟩ := enum_mem (xs := rs) (d := d) (by rw [hd]; simp)
    obtain ⟨rw, o, k, f, e, _⟩ := hr r hi
    have hpl : pre.length ≤ 12 := by
      have := congrArg List.length hd
      simp [enumD] at this; omega
    have hal : ((pre.filter (nb rs (Wd ps))).map num).length ≤ 100 := by
      have := List.length_filter_le (nb rs (Wd ps)) pre
      rw [List.length_map]; omega
    have st := nobody_L2 rs ps hr hp _ hal i r hi s3 s4 s5 rw o k f e sW hW
    subst e
    refine ⟨_, _, rfl, st, some (.dat (.list (Wd ps))), some (.dat (.int i)), some (.dat rw), some (.dat o), some (.dat k), some (.dat f), .inr rfl, ?_⟩
    have e2 : ((pre ++ [PyData.tuple [.int i, .tuple [rw, o, k, f]]]).filter (nb rs (Wd ps))).map num = (pre.filter (nb rs (Wd ps))).map num ++ (if nb rs (Wd ps) (.tuple [.int i, .tuple [rw, o, k, f]]) = true then [.int i] else []) := by
      rw [List.filter_append, List.map_append]
      cases hn : nb rs (Wd ps) (.tuple [.int i, .tuple [rw, o, k, f]]) <;> simp [hn, num]
    rw [e2])
  have hf : m_nobody [.tuple rs, .tuple ps] = .ok (.tuple (NB rs (Wd ps))) := by
    unfold NB
    simp [m_nobody, b_nobody, runA, runL, runP, runC, startE, mSeq, bind_run, pure_run, M.get, M.ownL, M.peek, M.put, M.app, M.lift, M.setD, M.setL, M.tset, Tg.set, Tg.setL, M.ofRes, M.callP, M.scr, M.raise, mAnd, mOr, vAnd, vOr, mChain, asB, asI, gIx, gIsN, gNotN, gLen, gTuple, gList, items, gEnum, gZip, gSl, isStr, isInt, isBool, isTuple, isList, isDict, gEq_str, gNe_str, gEq_int, gNe_int, mkTup_ok, mkLst_ok, szOk_ok, atI_0, atI_1, atI_2, atI_3, atI_4, atI_5, le_line, M.setT, M.ownD, M.dput, M.dget, M.keysD, M.ext, M.getW, runF, M.isFn, n1, n2, g1, g2]
  exact hf
/-! ### plain facts -/
theorem enum_get (rs : List PyData) (i : Nat) (r : PyData) : PyData.tuple [.int i, r] ∈ enumD rs ↔ rs[i]? = some r := by
  constructor
  · intro h
    obtain ⟨n, hn⟩ := List.mem_iff_getElem?.mp h
    obtain ⟨x, h1, h2⟩ := enumD_get hn
    simp at h2
    obtain ⟨h2, rfl⟩ := h2
    have : i = n := by omega
    subst this; exact h1
  · intro h
    unfold enumD
    refine List.mem_map.mpr ⟨(r, i), ?_, rfl⟩
    rw [List.mem_zipIdx_iff_getElem?]; exact h
theorem nb_mem {rs W : List PyData} {i : Nat} : PyData.int i ∈ NB rs W ↔ ∃ r, rs[i]? = some r ∧ ∀ d ∈ W, byWay rs i r d = false := by
  unfold NB
  rw [List.mem_map]
  constructor
  · rintro ⟨d, hd, hn⟩
    obtain ⟨h1, h2⟩ := List.mem_filter.mp hd
    obtain ⟨j, r, rfl, _, _⟩ := enum_mem h1
    simp [num] at hn
    have : j = i := by omega
    subst this
    refine ⟨r, (enum_get rs j r).mp h1, fun d hd => ?_⟩
    simp [nb] at h2
    exact h2 d hd
  · rintro ⟨r, h1, h2⟩
    refine ⟨_, List.mem_filter.mpr ⟨(enum_get rs i r).mpr h1, ?_⟩, rfl⟩
    simp [nb]
    exact h2
theorem nb_int {rs W : List PyData} {d : PyData} (h : d ∈ NB rs W) : ∃ i : Nat, d = .int i := by
  unfold NB at h
  obtain ⟨x, hx, rfl⟩ := List.mem_map.mp h
  obtain ⟨j, r, rfl, _, _⟩ := enum_mem (List.mem_filter.mp hx).1
  exact ⟨j, rfl⟩
end Lw
namespace Lw
open PySem L2 DL
/-! ### people -/
theorem people_spec (c f : Int) : ∃ ps c', m__law_people [.int c, .int f] [] = .ok (.tuple ps, [.int c', .int f]) ∧ ps ∈ PSS := by
  have hfold := mLC_all (vs := [2]) (t := .nm 2) (tt := b__law_people_T1) (fe := b__law_people_C1) FOUR [some (.lis true [.int c, .int f]), some (.dat (.list FOUR)), none] (fun pre acc e => ∃ c2, e = [some (.lis true [.int c2, .int f]), some (.dat (.list FOUR)), none] ∧ acc.Sublist pre) rfl (le_line (by simp [FOUR])) ⟨c, rfl, List.Sublist.refl _⟩ (by
    rintro pre d rest acc e hd ⟨c2, rfl, hs⟩
    obtain ⟨k, c3, h1, h2, h3⟩ := draw_spec c2 f 2 (by omega) (by omega)
    refine ⟨_, k == 0, [some (.lis true [.int c3, .int f]), some (.dat (.list FOUR)), some (.dat d)], rfl, ?_, fun _ => ⟨d, _, rfl, c3, rfl, ?_⟩, fun _ => ⟨c3, rfl, ?_⟩⟩
    · simp [b__law_people_T1, runA, runL, runP, runC, startE, mSeq, bind_run, pure_run, M.get, M.ownL, M.peek, M.put, M.app, M.lift, M.setD, M.setL, M.tset, Tg.set, Tg.setL, M.ofRes, M.callP, M.scr, M.raise, mAnd, mOr, vAnd, vOr, mChain, asB, asI, gIx, gIsN, gNotN, gLen, gTuple, gList, items, gEnum, gZip, gSl, isStr, isInt, isBool, isTuple, isList, isDict, gEq_str, gNe_str, gEq_int, gNe_int, mkTup_ok, mkLst_ok, szOk_ok, atI_0, atI_1, atI_2, atI_3, atI_4, atI_5, le_line, M.setT, M.ownD, M.dput, M.dget, M.keysD, M.ext, M.getW, runF, M.isFn, h1, gEq_int]
    · exact hs.append (List.Sublist.refl _)
    · exact hs.trans (List.sublist_append_left _ _))
  obtain ⟨acc, e', g1, ⟨c3, rfl, g2⟩, _⟩ := hfold
  refine ⟨acc, c3, ?_, subs_mem g2⟩
  have m0 : mkTup [] = some (.tuple []) := rfl
  have p1 : mkTup [.str "ann", .str "pw", .tuple []] = some pAnn := rfl
  have p2 : mkTup [.str "bob", .str "b1", .tuple [.str "boss"]] = some pBob := rfl
  have p3 : mkTup [.str "cy", .str "c", .tuple [.str "aid", .str "boss"]] = some pCy := rfl
  have p4 : mkTup [.str "dan", .str "d-", .tuple [.str "aid"]] = some pDan := rfl
  have q1 : mkTup [.str "boss"] = some (.tuple [.str "boss"]) := rfl
  have q2 : mkTup [.str "aid", .str "boss"] = some (.tuple [.str "aid", .str "boss"]) := rfl
  have q3 : mkTup [.str "aid"] = some (.tuple [.str "aid"]) := rfl
  have ml : mkLst [pAnn, pBob, pCy, pDan] = some (.list FOUR) := mkLst_ok (le_line (by simp))
  generalize FOUR = FF at *
  generalize pAnn = a1 at *
  generalize pBob = a2 at *
  generalize pCy = a3 at *
  generalize pDan = a4 at *
  simp [m__law_people, b__law_people, runP, startE, mSeq, bind_run, pure_run, M.get, M.lift, M.setD, items, gTuple, m0, p1, p2, p3, p4, q1, q2, q3, ml, g1, restoreE]
/-! ### the law's own look -/
def letBD : M Fl :=
  mSeq ((mOr ((((M.get 7) >>= fun x => (pure (.int 0)) >>= fun y => M.lift (gIx x y)) >>= fun x => (pure (.str "all")) >>= fun y => M.lift (gEq x y)) >>= fun d => M.lift (asB d)) (mAnd (((M.get 1) >>= fun x => (pure .none) >>= fun y => M.lift (gNotN x y)) >>= fun d => M.lift (asB d)) ((((M.get 7) >>= fun x => (pure (.int 0)) >>= fun y => M.lift (gIx x y)) >>= fun x => (pure (.str "known")) >>= fun y => M.lift (gEq x y)) >>= fun d => M.lift (asB d)))) >>= fun x => if x = true then ((M.get 6) >>= fun d => pure (.rt d)) else (pure .nx))
      (mSeq ((mAnd (((M.get 1) >>= fun x => (pure .none) >>= fun y => M.lift (gNotN x y)) >>= fun d => M.lift (asB d)) (mAnd ((((M.get 7) >>= fun x => (pure (.int 0)) >>= fun y => M.lift (gIx x y)) >>= fun x => (pure (.str "own")) >>= fun y => M.lift (gEq x y)) >>= fun d => M.lift (asB d)) ((((M.get 1) >>= fun x => (pure (.int 0)) >>= fun y => M.lift (gIx x y)) >>= fun x => (M.get 5) >>= fun y => M.lift (gEq x y)) >>= fun d => M.lift (asB d)))) >>= fun x => if x = true then ((M.get 6) >>= fun d => pure (.rt d)) else (pure .nx))
      ((mAnd (((M.get 1) >>= fun x => (pure .none) >>= fun y => M.lift (gNotN x y)) >>= fun d => M.lift (asB d)) (mAnd ((((M.get 7) >>= fun x => (pure (.int 0)) >>= fun y => M.lift (gIx x y)) >>= fun d => pure (.bool (isTuple d))) >>= fun d => M.lift (asB d)) (((((M.get 7) >>= fun x => (pure (.int 0)) >>= fun y => M.lift (gIx x y)) >>= fun x => (pure (.int 1)) >>= fun y => M.lift (gIx x y)) >>= fun x => ((M.get 1) >>= fun x => (pure (.int 1)) >>= fun y => M.lift (gIx x y)) >>= fun y => M.lift (gIn x y)) >>= fun d => M.lift (asB d)))) >>= fun x => if x = true then ((M.get 6) >>= fun d => pure (.rt d)) else (pure .nx)))
theorem who_part (i : Int) (rw ro rk rf a w d k f rs : PyData) (hr : rw ∈ WHO) (ha : a ∈ ASK) (hw : w ∈ OW) :
    letBD
      [some (.dat rs), some (.dat a), some (.dat d), some (.dat k), some (.dat f), some (.dat w), some (.dat (.int i)), some (.dat (.tuple [rw, ro, rk, rf]))] =
    .ok (if forB rw a w = true then .rt (.int i) else .nx) [some (.dat rs), some (.dat a), some (.dat d), some (.dat k), some (.dat f), some (.dat w), some (.dat (.int i)), some (.dat (.tuple [rw, ro, rk, rf]))] := by
  have gt : ∀ (x y : Str) (z : Str), gEq (.tuple [.str x, .str y]) (.str z) = some (.bool false) := gEq2s
  simp only [WHO, List.mem_cons, List.not_mem_nil, or_false] at hr
  simp only [ASK, List.mem_cons, List.not_mem_nil, or_false] at ha
  simp only [OW, List.mem_cons, List.not_mem_nil, or_false] at hw
  clear gt
  rcases hr with rfl | rfl | rfl | rfl | rfl <;> rcases ha with rfl | rfl | rfl | rfl | rfl <;> rcases hw with rfl | rfl | rfl | rfl | rfl | rfl <;> kernel_rfl
end Lw
namespace Lw
open PySem L2 DL
theorem law_let_spec (rs : List PyData) (hr : ∀ r ∈ rs, ruleOk r) (a w : PyData) (o k f : Str) (ha : a ∈ ASK) (hw : w ∈ OW) : m__law_let [.tuple rs, a, .str o, .str k, .str f, w] = .ok (plc (rs.findIdx? (hitR a (.str o) (.str k) (.str f) w))) := by
  obtain ⟨e', h1, s6, s7, rfl⟩ := forM_find (t := (.tp [(.nm 6), (.nm 7)])) (b := b__law_let_L1) (fun e => ∃ s6 s7, e = [some (.dat (.tuple rs)), some (.dat a), some (.dat (.str o)), some (.dat (.str k)), some (.dat (.str f)), some (.dat w), s6, s7]) (hit a (.str o) (.str k) (.str f) w) num (enumD rs) [some (.dat (.tuple rs)), some (.dat a), some (.dat (.str o)), some (.dat (.str k)), some (.dat (.str f)), some (.dat w), none, none] ⟨_, _, rfl⟩ (by
    rintro d hd e ⟨s6, s7, rfl⟩
    obtain ⟨i, r, rfl, hi, _⟩ := enum_mem hd
    obtain ⟨rw', ro, rk, rf, rfl, q1, q2, q3, q4⟩ := hr r hi
    obtain ⟨so, rfl⟩ := str_of (d := ro) (by simp [q2])
    obtain ⟨sk, rfl⟩ := str_of (d := rk) (by simp [nm_kd q3])
    obtain ⟨sf, rfl⟩ := str_of (d := rf) (by simp [q4])
    refine ⟨[some (.dat (.tuple rs)), some (.dat a), some (.dat (.str o)), some (.dat (.str k)), some (.dat (.str f)), some (.dat w), some (.dat (.int i)), some (.dat (.tuple [rw', .str so, .str sk, .str sf]))], [some (.dat (.tuple rs)), some (.dat a), some (.dat (.str o)), some (.dat (.str k)), some (.dat (.str f)), some (.dat w), some (.dat (.int i)), some (.dat (.tuple [rw', .str so, .str sk, .str sf]))], rfl, ?_, _, _, rfl⟩
    have q := who_part i rw' (.str so) (.str sk) (.str sf) a w (.str o) (.str k) (.str f) (.tuple rs) q1 ha hw
    have gi : gIn (.str sf) (.list [.str "", .str f]) = some (.bool (PyData.eqv (.str "") (.str sf) || PyData.eqv (.str f) (.str sf))) := by
      simp [gIn, gInL, flat]
    simp only [hit, num]
    have split : b__law_let_L1 = (mAnd ((((M.get 7) >>= fun x => (pure (.int 1)) >>= fun y => M.lift (gIx x y)) >>= fun x => (M.get 2) >>= fun y => M.lift (gEq x y)) >>= fun d => M.lift (asB d)) (mAnd ((((M.get 7) >>= fun x => (pure (.int 2)) >>= fun y => M.lift (gIx x y)) >>= fun x => (M.get 3) >>= fun y => M.lift (gEq x y)) >>= fun d => M.lift (asB d)) ((((M.get 7) >>= fun x => (pure (.int 3)) >>= fun y => M.lift (gIx x y)) >>= fun x => (((pure (.str "")) >>= fun d => ((M.get 4) >>= fun d => (pure []) >>= fun ds => pure (d :: ds)) >>= fun ds => pure (d :: ds)) >>= fun ds => M.lift (mkLst ds)) >>= fun y => M.lift (gIn x y)) >>= fun d => M.lift (asB d)))) >>= fun x => if x = true then letBD else (pure .nx) := rfl
    rw [split]; clear split
    rcases Bool.eq_false_or_eq_true (PyData.eqv (.str so) (.str o)) with c0 | c0 <;> rcases Bool.eq_false_or_eq_true (PyData.eqv (.str sk) (.str k)) with c1 | c1 <;> rcases Bool.eq_false_or_eq_true (PyData.eqv (.str "") (.str sf) || PyData.eqv (.str f) (.str sf)) with c2 | c2 <;> rw [c2] at gi <;>
      have e0 := gEq_of (simple_str so) (simple_str o) <;> have e1 := gEq_of (simple_str sk) (simple_str k) <;> rw [c0] at e0 <;> rw [c1] at e1 <;>
      simp [-gEq_str, atI_0, atI_1, atI_2, atI_3, bind_run, pure_run, mAnd, M.get, M.lift, asB, gIx, mkLst_ok, le_line, e0, e1, gi, c0, c1, c2, q, -Bool.and_eq_true, -Bool.or_eq_true, -Bool.and_eq_false_imp] <;> (try cases forB rw' a w <;> rfl))
  rw [← found_eq]
  unfold found
  cases hf : (enumD rs).find? (hit a (.str o) (.str k) (.str f) w) with
  | some d => rw [hf] at h1; simp [m__law_let, b__law_let, runA, runL, runP, runC, startE, mSeq, bind_run, pure_run, M.get, M.ownL, M.peek, M.put, M.app, M.lift, M.setD, M.setL, M.tset, Tg.set, Tg.setL, M.ofRes, M.callP, M.scr, M.raise, mAnd, mOr, vAnd, vOr, mChain, asB, asI, gIx, gIsN, gNotN, gLen, gTuple, gList, items, gEnum, gZip, gSl, isStr, isInt, isBool, isTuple, isList, isDict, gEq_str, gNe_str, gEq_int, gNe_int, mkTup_ok, mkLst_ok, szOk_ok, atI_0, atI_1, atI_2, atI_3, atI_4, atI_5, le_line, M.setT, M.ownD, M.dput, M.dget, M.keysD, M.ext, M.getW, runF, M.isFn, h1]
  | none => rw [hf] at h1; simp [m__law_let, b__law_let, runA, runL, runP, runC, startE, mSeq, bind_run, pure_run, M.get, M.ownL, M.peek, M.put, M.app, M.lift, M.setD, M.setL, M.tset, Tg.set, Tg.setL, M.ofRes, M.callP, M.scr, M.raise, mAnd, mOr, vAnd, vOr, mChain, asB, asI, gIx, gIsN, gNotN, gLen, gTuple, gList, items, gEnum, gZip, gSl, isStr, isInt, isBool, isTuple, isList, isDict, gEq_str, gNe_str, gEq_int, gNe_int, mkTup_ok, mkLst_ok, szOk_ok, atI_0, atI_1, atI_2, atI_3, atI_4, atI_5, le_line, M.setT, M.ownD, M.dput, M.dget, M.keysD, M.ext, M.getW, runF, M.isFn, h1]
end Lw
namespace Lw
open PySem L2 DL
def key3 : PyData → List Key
  | .tuple [_, .str o, .str k, .str f] => [.inr o, .inr k, .inr f]
  | _ => []
def SR (rs : List PyData) : List PyData := dSort ((ddk (rs.map key3)).map keyD)
theorem SR_mem {rs : List PyData} {d : PyData} : d ∈ SR rs ↔ ∃ r ∈ rs, d = keyD (key3 r) := by
  unfold SR dSort
  rw [(List.mergeSort_perm _ _).mem_iff, List.mem_map]
  constructor
  · rintro ⟨k, hk, rfl⟩
    obtain ⟨r, hr, rfl⟩ := List.mem_map.mp (ddk_mem.mp hk)
    exact ⟨r, hr, rfl⟩
  · rintro ⟨r, hr, rfl⟩
    exact ⟨_, ddk_mem.mpr (List.mem_map.mpr ⟨r, hr, rfl⟩), rfl⟩
theorem ddk_len : ∀ ks : List (List Key), (ddk ks).length ≤ ks.length
  | [] => Nat.le_refl _
  | x :: r => by
    have := ddk_len r
    unfold ddk
    split
    · rw [List.length_cons]; omega
    · rw [List.length_cons, List.length_cons]; omega
theorem SR_len {rs : List PyData} : (SR rs).length ≤ rs.length := by
  unfold SR dSort
  rw [(List.mergeSort_perm _ _).length_eq, List.length_map]
  have := ddk_len (rs.map key3)
  rwa [List.length_map] at this
/-! ### all rows that can be -/
def U3 : List (List Key) := [("see" : Str), "add", "change", "remove"].flatMap fun o => [("note" : Str), "item", "cat", "z"].flatMap fun k => [("" : Str), "count", "title", "left", "a", "bb"].map fun f => [.inr o, .inr k, .inr f]
theorem key3_mem {r : PyData} (h : ruleOk r) : key3 r ∈ U3 ∧ ∃ w o k f, r = .tuple [w, .str o, .str k, .str f] ∧ key3 r = [.inr o, .inr k, .inr f] := by
  obtain ⟨w, o, k, f, rfl, h1, h2, h3, h4⟩ := h
  simp only [OPS, List.mem_cons, List.not_mem_nil, or_false] at h2
  simp only [NM, List.mem_cons, List.not_mem_nil, or_false] at h3
  simp only [FN0, FN, List.mem_cons, List.not_mem_nil, or_false] at h4
  have : ∀ (o k f : Str), o ∈ [("see" : Str), "add", "change", "remove"] → k ∈ [("note" : Str), "item", "cat", "z"] → f ∈ [("" : Str), "count", "title", "left", "a", "bb"] → [Sum.inr o, .inr k, .inr f] ∈ U3 := fun o k f a b c =>
    List.mem_flatMap.mpr ⟨o, a, List.mem_flatMap.mpr ⟨k, b, List.mem_map.mpr ⟨f, c, rfl⟩⟩⟩
  rcases h2 with rfl | rfl | rfl | rfl <;> rcases h3 with rfl | rfl | rfl | rfl <;> rcases h4 with rfl | rfl | rfl | rfl | rfl | rfl <;> exact ⟨this _ _ _ (by simp) (by simp) (by simp), _, _, _, _, rfl, rfl⟩
theorem U3_tot : totD (U3.map keyD) = true := by decide +kernel
theorem U3_like : likeAll (U3.map keyD) = true := by decide +kernel
theorem U3_tup : (U3.map keyD).all tup1 = true := by decide +kernel
theorem keys_tails : ∀ {rs : List PyData}, (∀ r ∈ rs, ruleOk r) → keysT (rs.map fun r => keyD (key3 r)) = some (rs.map key3)
  | [], _ => rfl
  | r :: rs, h => by
    have ih := keys_tails fun x hx => h x (List.mem_cons_of_mem _ hx)
    rw [List.map_cons, List.map_cons]
    show (keysOf ((key3 r).map kD)).bind (fun k => (keysT _).map (k :: ·)) = _
    rw [keysOf_kD, ih]; rfl
theorem set_ok {rs : List PyData} (hl : rs.length ≤ 12) (h : ∀ r ∈ rs, ruleOk r) : setOk (rs.map key3) = true := by
  have hm : ∀ d ∈ (ddk (rs.map key3)).map keyD, d ∈ U3.map keyD := fun d hd => by
    obtain ⟨k, hk, rfl⟩ := List.mem_map.mp hd
    obtain ⟨r, hr, rfl⟩ := List.mem_map.mp (ddk_mem.mp hk)
    exact List.mem_map.mpr ⟨_, (key3_mem (h r hr)).1, rfl⟩
  have dl := ddk_len (rs.map key3)
  rw [List.length_map] at dl
  simp only [setOk, sortOk, Bool.and_eq_true, decide_eq_true_eq, List.length_map]
  refine ⟨⟨by omega, ⟨⟨⟨?_, ?_⟩, ?_⟩, ?_⟩, ?_⟩, ?_⟩
  · exact List.all_eq_true.mpr fun d hd => List.all_eq_true.mpr fun d' hd' => List.all_eq_true.mp (List.all_eq_true.mp U3_like d (hm d hd)) d' (hm d' hd')
  · rw [Bool.or_eq_true]
    exact .inl (List.all_eq_true.mpr fun d hd => List.all_eq_true.mp U3_tup d (hm d hd))
  · have : ∀ ks : List (List Key), noDicts (ks.map keyD) = true := fun ks => by
      induction ks with
      | nil => rfl
      | cons k ks ih =>
        have hk : ∀ k : List Key, noDicts (k.map kD) = true := fun k => by
          induction k with
          | nil => rfl
          | cons x k ih => cases x <;> simpa [noDicts, kD, noDict] using ih
        simp [noDicts, keyD, noDict, hk k, ih]
    exact this _
  · refine List.all_eq_true.mpr fun d hd => ?_
    obtain ⟨k, hk, rfl⟩ := List.mem_map.mp hd
    have : ∀ k : List Key, PyData.depthAll (k.map kD) = 0 := fun k => by
      induction k with
      | nil => simp [PyData.depthAll]
      | cons x k ih => cases x <;> simp [PyData.depthAll, kD, PyData.depth, ih]
    rw [decide_eq_true_eq]
    simp only [keyD, PyData.depth, this]; omega
  · exact le_line (by omega)
  · exact List.all_eq_true.mpr fun d hd => List.all_eq_true.mpr fun d' hd' => List.all_eq_true.mp (List.all_eq_true.mp U3_tot d (hm d hd)) d' (hm d' hd')
/-! ### what is told -/
def hole (s : Option Sv) : Prop := s = none ∨ ∃ d, s = some (.dat d)
def g1 (rs : List PyData) (a w o k : PyData) (f : Str) : PyData := plc (rs.findIdx? (hitR a o k (.str f) w))
def FS (p : Str) : List Str := srtS [p, "", "count", "other"]
theorem ddp_len : ∀ ks : List Str, (ddp ks).length ≤ ks.length
  | [] => Nat.le_refl _
  | x :: r => by
    have := ddp_len r
    unfold ddp
    split
    · rw [List.length_cons]; omega
    · rw [List.length_cons, List.length_cons]; omega
theorem FS_mem {p f : Str} : f ∈ FS p ↔ f ∈ [p, "", "count", "other"] := by
  unfold FS srtS
  rw [(List.mergeSort_perm _ _).mem_iff, ddp_mem]
theorem FS_len (p : Str) : (FS p).length ≤ 4 := by
  unfold FS srtS
  rw [(List.mergeSort_perm _ _).length_eq]
  exact ddp_len _
def g2 (rs : List PyData) (a w : PyData) : PyData → List PyData
  | .tuple [o, k, .str p] => (FS p).map (g1 rs a w o k)
  | _ => []
theorem g2_len (rs : List PyData) (a w d : PyData) : (g2 rs a w d).length ≤ 4 := by
  unfold g2
  split
  · rw [List.length_map]; exact FS_len _
  · simp
def g3 (rs : List PyData) (a w : PyData) : List PyData := (SR rs).flatMap (g2 rs a w)
theorem flat_len {α β : Type} {g : α → List β} {n : Nat} : ∀ {l : List α}, (∀ x ∈ l, (g x).length ≤ n) → (l.flatMap g).length ≤ l.length * n
  | [], _ => by simp
  | x :: l, h => by
    have := flat_len (g := g) (l := l) fun y hy => h y (List.mem_cons_of_mem _ hy)
    have h0 := h x List.mem_cons_self
    rw [List.flatMap_cons, List.length_append, List.length_cons, Nat.succ_mul]
    omega
theorem g3_len {rs : List PyData} (hl : rs.length ≤ 8) (a w : PyData) : (g3 rs a w).length ≤ 32 := by
  have h1 := flat_len (g := g2 rs a w) (n := 4) (l := SR rs) fun x _ => g2_len rs a w x
  have h2 := SR_len (rs := rs)
  unfold g3; omega
def g4 (rs : List PyData) (a : PyData) : List PyData := OW.flatMap (g3 rs a)
theorem g4_len {rs : List PyData} (hl : rs.length ≤ 8) (a : PyData) : (g4 rs a).length ≤ 192 := by
  have h1 := flat_len (g := g3 rs a) (n := 32) (l := OW) fun x _ => g3_len hl a x
  unfold g4
  have : OW.length = 6 := rfl
  omega
variable {s3 s4 s5 s6 s7 s8 : Option Sv} {rs ps R : List PyData} {a w : PyData}

theorem L1_ok (o k f : Str) (hr : ∀ r ∈ rs, ruleOk r) (ha : a ∈ ASK) (hw : w ∈ OW) (hR : R.length ≤ 999) :
    b__law_told_L1 [some (.dat (.tuple rs)), some (.dat (.tuple ps)), some (.lis false R), some (.dat (a)), some (.dat (w)), some (.dat (.str o)), some (.dat (.str k)), s7, some (.dat (.str f)), none, none, none, none] = .ok .nx [some (.dat (.tuple rs)), some (.dat (.tuple ps)), some (.lis false (R ++ [g1 rs a w (.str o) (.str k) f])), some (.dat (a)), some (.dat (w)), some (.dat (.str o)), some (.dat (.str k)), s7, some (.dat (.str f)), none, none, none, none] := by
  have h1 := law_let_spec rs hr a w o k f ha hw
  have hlt : R.length < sizeLine := Nat.lt_of_lt_of_le (by omega) (le_line (n := 1000) (by omega))
  unfold g1
  generalize plc (rs.findIdx? (hitR a (.str o) (.str k) (.str f) w)) = x at *
  simp [b__law_told_L1, bind_run, pure_run, M.get, M.ownL, M.app, M.lift, M.ofRes, h1, hlt]

theorem L2_ok (o k p : Str) (hr : ∀ r ∈ rs, ruleOk r) (ha : a ∈ ASK) (hw : w ∈ OW) (hR : R.length ≤ 990) (h8 : hole s8) :
    ∃ t8, hole t8 ∧ b__law_told_L2 [some (.dat (.tuple rs)), some (.dat (.tuple ps)), some (.lis false R), some (.dat (a)), some (.dat (w)), some (.dat (.str o)), some (.dat (.str k)), some (.dat (.str p)), s8, none, none, none, none] = .ok .nx [some (.dat (.tuple rs)), some (.dat (.tuple ps)), some (.lis false (R ++ g2 rs a w (.tuple [.str o, .str k, .str p]))), some (.dat (a)), some (.dat (w)), some (.dat (.str o)), some (.dat (.str k)), some (.dat (.str p)), t8, none, none, none, none] := by
  have fl := FS_len p
  obtain ⟨e', lp, t8, q8, rfl⟩ := forM_on (t := .nm 8) (b := b__law_told_L1) (fun f : Str => PyData.str f) (FS p) [some (.dat (.tuple rs)), some (.dat (.tuple ps)), some (.lis false R), some (.dat (a)), some (.dat (w)), some (.dat (.str o)), some (.dat (.str k)), some (.dat (.str p)), s8, none, none, none, none]
    (fun pre e => ∃ t8, hole t8 ∧ e = [some (.dat (.tuple rs)), some (.dat (.tuple ps)), some (.lis false (R ++ pre.map (g1 rs a w (.str o) (.str k)))), some (.dat (a)), some (.dat (w)), some (.dat (.str o)), some (.dat (.str k)), some (.dat (.str p)), t8, none, none, none, none]) ⟨_, h8, by simp⟩ (by
    rintro pre f rest e hp ⟨t8, q8, rfl⟩
    have hpl : pre.length ≤ 4 := by have := congrArg List.length hp; simp at this; omega
    refine ⟨[some (.dat (.tuple rs)), some (.dat (.tuple ps)), some (.lis false (R ++ pre.map (g1 rs a w (.str o) (.str k)))), some (.dat (a)), some (.dat (w)), some (.dat (.str o)), some (.dat (.str k)), some (.dat (.str p)), some (.dat (.str f)), none, none, none, none], _, rfl, L1_ok o k f hr ha hw (by simp; omega), some (.dat (.str f)), .inr ⟨.str f, rfl⟩, by simp⟩)
  refine ⟨t8, q8, ?_⟩
  have gs : gSortSet (.list [.str p, .str "", .str "count", .str "other"]) = some (.list ((FS p).map .str)) := rfl
  have ml : mkLst [PyData.str p, .str "", .str "count", .str "other"] = some (.list [.str p, .str "", .str "count", .str "other"]) := mkLst_ok (le_line (by simp))
  rw [show g2 rs a w (.tuple [.str o, .str k, .str p]) = (FS p).map (g1 rs a w (.str o) (.str k)) from rfl]
  generalize FS p = FF at *
  simp [b__law_told_L2, bind_run, pure_run, M.get, M.lift, items, ml, gs, lp]

theorem L3_ok (hl : rs.length ≤ 8) (hr : ∀ r ∈ rs, ruleOk r) (ha : a ∈ ASK) (hw : w ∈ OW) (hR : R.length ≤ 950) (h8 : hole s8) :
    ∃ t5 t6 t7 t8, hole t8 ∧ b__law_told_L3 [some (.dat (.tuple rs)), some (.dat (.tuple ps)), some (.lis false R), some (.dat (a)), some (.dat (w)), s5, s6, s7, s8, none, none, none, none] = .ok .nx [some (.dat (.tuple rs)), some (.dat (.tuple ps)), some (.lis false (R ++ g3 rs a w)), some (.dat (a)), some (.dat (w)), t5, t6, t7, t8, none, none, none, none] := by
  have sl := SR_len (rs := rs)
  have c1 := mLC_map (vs := [12]) (t := .nm 12) (fe := b__law_told_C2) (ds := rs) (e := [some (.dat (.tuple rs)), some (.dat (.tuple ps)), some (.lis false R), some (.dat (a)), some (.dat (w)), s5, s6, s7, s8, none, none, none, none]) (fun r => keyD (key3 r)) rfl (le_line (by omega)) (fun d hd => by
    obtain ⟨_, w', o, k, f, rfl, e⟩ := key3_mem (hr d hd)
    refine ⟨[some (.dat (.tuple rs)), some (.dat (.tuple ps)), some (.lis false R), some (.dat (a)), some (.dat (w)), s5, s6, s7, s8, none, none, none, some (.dat (PyData.tuple [w', .str o, .str k, .str f]))], [some (.dat (.tuple rs)), some (.dat (.tuple ps)), some (.lis false R), some (.dat (a)), some (.dat (w)), s5, s6, s7, s8, none, none, none, some (.dat (PyData.tuple [w', .str o, .str k, .str f]))], rfl, ?_, rfl, rfl⟩
    have cc : cutD [w', .str o, .str k, .str f] (some 1) none = [.str o, .str k, .str f] := rfl
    rw [e]
    simp [b__law_told_C2, runA, runL, runP, runC, startE, mSeq, bind_run, pure_run, M.get, M.ownL, M.peek, M.put, M.app, M.lift, M.setD, M.setL, M.tset, Tg.set, Tg.setL, M.ofRes, M.callP, M.scr, M.raise, mAnd, mOr, vAnd, vOr, mChain, asB, asI, gIx, gIsN, gNotN, gLen, gTuple, gList, items, gEnum, gZip, gSl, isStr, isInt, isBool, isTuple, isList, isDict, gEq_str, gNe_str, gEq_int, gNe_int, mkTup_ok, mkLst_ok, szOk_ok, atI_0, atI_1, atI_2, atI_3, atI_4, atI_5, le_line, M.setT, M.ownD, M.dput, M.dget, M.keysD, M.ext, M.getW, runF, M.isFn, cc, keyD, kD])
  obtain ⟨e', lp, t5, t6, t7, t8, q8, rfl⟩ := forM_on (t := .tp [(.nm 5), (.nm 6), (.nm 7)]) (b := b__law_told_L2) id (SR rs) [some (.dat (.tuple rs)), some (.dat (.tuple ps)), some (.lis false R), some (.dat (a)), some (.dat (w)), s5, s6, s7, s8, none, none, none, none]
    (fun pre e => ∃ t5 t6 t7 t8, hole t8 ∧ e = [some (.dat (.tuple rs)), some (.dat (.tuple ps)), some (.lis false (R ++ pre.flatMap (g2 rs a w))), some (.dat (a)), some (.dat (w)), t5, t6, t7, t8, none, none, none, none]) ⟨s5, s6, s7, s8, h8, by simp⟩ (by
    rintro pre d rest e hp ⟨t5, t6, t7, t8, q8, rfl⟩
    have hpl : pre.length ≤ 7 := by have := congrArg List.length hp; simp at this; omega
    have hgl := flat_len (g := g2 rs a w) (n := 4) (l := pre) fun x _ => g2_len rs a w x
    obtain ⟨r, hr', rfl⟩ := SR_mem.mp (by rw [hp]; simp : d ∈ SR rs)
    obtain ⟨_, w', o, k, f, rfl, e⟩ := key3_mem (hr r hr')
    obtain ⟨u8, v8, st⟩ := L2_ok (R := R ++ pre.flatMap (g2 rs a w)) (ps := ps) o k f hr ha hw (by rw [List.length_append]; omega) q8
    refine ⟨[some (.dat (.tuple rs)), some (.dat (.tuple ps)), some (.lis false (R ++ pre.flatMap (g2 rs a w))), some (.dat (a)), some (.dat (w)), some (.dat (.str o)), some (.dat (.str k)), some (.dat (.str f)), t8, none, none, none, none], _, by rw [e]; rfl, st, some (.dat (.str o)), some (.dat (.str k)), some (.dat (.str f)), u8, v8, ?_⟩
    rw [e]
    simp [keyD, kD])
  refine ⟨t5, t6, t7, t8, q8, ?_⟩
  have gs : gSortSetK (.list (rs.map fun r => keyD (key3 r))) = some (.list (SR rs)) := by
    unfold gSortSetK
    dsimp only
    rw [keys_tails hr]
    dsimp only
    rw [set_ok (by omega) hr, if_pos rfl]; rfl
  rw [List.map_id] at lp
  unfold g3
  generalize SR rs = SS at *
  simp [b__law_told_L3, bind_run, pure_run, M.get, M.lift, items, c1, gs, lp]

theorem L4_ok (hl : rs.length ≤ 8) (hr : ∀ r ∈ rs, ruleOk r) (ha : a ∈ ASK) (hR : R.length ≤ 770) (h8 : hole s8) :
    ∃ t4 t5 t6 t7 t8, hole t8 ∧ b__law_told_L4 [some (.dat (.tuple rs)), some (.dat (.tuple ps)), some (.lis false R), some (.dat (a)), s4, s5, s6, s7, s8, none, none, none, none] = .ok .nx [some (.dat (.tuple rs)), some (.dat (.tuple ps)), some (.lis false (R ++ g4 rs a)), some (.dat (a)), t4, t5, t6, t7, t8, none, none, none, none] := by
  obtain ⟨e', lp, t4, t5, t6, t7, t8, q8, rfl⟩ := forM_on (t := .nm 4) (b := b__law_told_L3) id OW [some (.dat (.tuple rs)), some (.dat (.tuple ps)), some (.lis false R), some (.dat (a)), s4, s5, s6, s7, s8, none, none, none, none]
    (fun pre e => ∃ t4 t5 t6 t7 t8, hole t8 ∧ e = [some (.dat (.tuple rs)), some (.dat (.tuple ps)), some (.lis false (R ++ pre.flatMap (g3 rs a))), some (.dat (a)), t4, t5, t6, t7, t8, none, none, none, none]) ⟨s4, s5, s6, s7, s8, h8, by simp⟩ (by
    rintro pre d rest e hp ⟨t4, t5, t6, t7, t8, q8, rfl⟩
    have hpl : pre.length ≤ 5 := by have := congrArg List.length hp; simp [OW] at this; omega
    have hgl := flat_len (g := g3 rs a) (n := 32) (l := pre) fun x _ => g3_len hl a x
    obtain ⟨u5, u6, u7, u8, v8, st⟩ := L3_ok (R := R ++ pre.flatMap (g3 rs a)) (ps := ps) (w := d) (s5 := t5) (s6 := t6) (s7 := t7) hl hr ha (by rw [hp]; simp) (by rw [List.length_append]; omega) q8
    exact ⟨[some (.dat (.tuple rs)), some (.dat (.tuple ps)), some (.lis false (R ++ pre.flatMap (g3 rs a))), some (.dat (a)), some (.dat (d)), t5, t6, t7, t8, none, none, none, none], _, rfl, st, some (.dat d), u5, u6, u7, u8, v8, by simp⟩)
  refine ⟨t4, t5, t6, t7, t8, q8, ?_⟩
  have ml : mkLst [PyData.str "", .str "ann", .str "bob", .str "cy", .str "dan", .str "zz"] = some (.list OW) := mkLst_ok (le_line (by simp))
  rw [List.map_id] at lp
  unfold g4
  generalize OW = OO at *
  simp [b__law_told_L4, bind_run, pure_run, M.lift, items, ml, lp]

/-- the askers of people -/
def askOf : PyData → PyData
  | .tuple [n, _, r] => .tuple [n, r]
  | d => d
def asks (ps : List PyData) : List PyData := .none :: ps.map askOf
theorem asks_ok {ps : List PyData} (hp : ps ∈ PSS) : ∀ a ∈ asks ps, a ∈ ASK := fun a ha => by
  rcases List.mem_cons.mp ha with rfl | ha
  · simp [ASK]
  · obtain ⟨p, h, rfl⟩ := List.mem_map.mp ha
    rcases (pers hp).2 p h with rfl | rfl | rfl | rfl <;> simp [askOf, pAnn, pBob, pCy, pDan, ASK]
def TOLD (rs ps : List PyData) : List PyData := (asks ps).flatMap (g4 rs)
theorem told_spec (hl : rs.length ≤ 8) (hr : ∀ r ∈ rs, ruleOk r) (hp : ps ∈ PSS) : m__law_told [.tuple rs, .tuple ps] = .ok (.list (TOLD rs ps)) := by
  have hp4 := (pers hp).1
  have c1 := mLC_map (vs := [9, 10, 11]) (t := .tp [.nm 9, .nm 10, .nm 11]) (fe := b__law_told_C1) (ds := ps) (e := [some (.dat (.tuple rs)), some (.dat (.tuple ps)), some (.lis false ([])), none, none, none, none, none, none, none, none, none, none]) askOf rfl (le_line (by omega)) (fun d hd => by
    obtain ⟨n, wd, rl, rfl⟩ : ∃ n wd rl, d = .tuple [n, wd, rl] := by rcases (pers hp).2 d hd with rfl | rfl | rfl | rfl <;> exact ⟨_, _, _, rfl⟩
    refine ⟨[some (.dat (.tuple rs)), some (.dat (.tuple ps)), some (.lis false ([])), none, none, none, none, none, none, some (.dat (n)), some (.dat (wd)), some (.dat (rl)), none], [some (.dat (.tuple rs)), some (.dat (.tuple ps)), some (.lis false ([])), none, none, none, none, none, none, some (.dat (n)), some (.dat (wd)), some (.dat (rl)), none], rfl, ?_, rfl, rfl⟩
    simp [b__law_told_C1, runA, runL, runP, runC, startE, mSeq, bind_run, pure_run, M.get, M.ownL, M.peek, M.put, M.app, M.lift, M.setD, M.setL, M.tset, Tg.set, Tg.setL, M.ofRes, M.callP, M.scr, M.raise, mAnd, mOr, vAnd, vOr, mChain, asB, asI, gIx, gIsN, gNotN, gLen, gTuple, gList, items, gEnum, gZip, gSl, isStr, isInt, isBool, isTuple, isList, isDict, gEq_str, gNe_str, gEq_int, gNe_int, mkTup_ok, mkLst_ok, szOk_ok, atI_0, atI_1, atI_2, atI_3, atI_4, atI_5, le_line, M.setT, M.ownD, M.dput, M.dget, M.keysD, M.ext, M.getW, runF, M.isFn, askOf])
  obtain ⟨e', lp, t3, t4, t5, t6, t7, t8, q8, rfl⟩ := forM_on (t := .nm 3) (b := b__law_told_L4) id (asks ps) [some (.dat (.tuple rs)), some (.dat (.tuple ps)), some (.lis false ([])), none, none, none, none, none, none, none, none, none, none]
    (fun pre e => ∃ t3 t4 t5 t6 t7 t8, hole t8 ∧ e = [some (.dat (.tuple rs)), some (.dat (.tuple ps)), some (.lis false ([] ++ pre.flatMap (g4 rs))), t3, t4, t5, t6, t7, t8, none, none, none, none]) ⟨none, none, none, none, none, none, .inl rfl, by simp⟩ (by
    rintro pre d rest e he ⟨t3, t4, t5, t6, t7, t8, q8, rfl⟩
    have hpl : pre.length ≤ 4 := by have := congrArg List.length he; simp [asks] at this; omega
    have hgl := flat_len (g := g4 rs) (n := 192) (l := pre) fun x _ => g4_len hl x
    obtain ⟨u4, u5, u6, u7, u8, v8, st⟩ := L4_ok (R := [] ++ pre.flatMap (g4 rs)) (ps := ps) (a := d) (s4 := t4) (s5 := t5) (s6 := t6) (s7 := t7) hl hr (asks_ok hp d (by rw [he]; simp)) (by rw [List.length_append]; simp only [List.length_nil]; omega) q8
    exact ⟨[some (.dat (.tuple rs)), some (.dat (.tuple ps)), some (.lis false ([] ++ pre.flatMap (g4 rs))), some (.dat (d)), t4, t5, t6, t7, t8, none, none, none, none], _, rfl, st, some (.dat d), u4, u5, u6, u7, u8, v8, by simp⟩)
  have e1 : 10 ≤ sizeLine := le_line (by omega)
  have ml : mkLst [PyData.none] = some (.list [.none]) := rfl
  rw [List.map_id] at lp
  simp only [asks] at lp
  simp only [TOLD, asks]
  have hAA : (ps.map askOf).length ≤ 4 := by simpa using hp4
  generalize ps.map askOf = AA at *
  have ga : gAdd (.list [.none]) (.list AA) = some (.list (.none :: AA)) := if_pos (by simp; omega)
  simp [m__law_told, b__law_told, runA, runL, runP, runC, startE, mSeq, bind_run, pure_run, M.get, M.ownL, M.peek, M.put, M.app, M.lift, M.setD, M.setL, M.tset, Tg.set, Tg.setL, M.ofRes, M.callP, M.scr, M.raise, mAnd, mOr, vAnd, vOr, mChain, asB, asI, gIx, gIsN, gNotN, gLen, gTuple, gList, items, gEnum, gZip, gSl, isStr, isInt, isBool, isTuple, isList, isDict, gEq_str, gNe_str, gEq_int, gNe_int, mkTup_ok, mkLst_ok, szOk_ok, atI_0, atI_1, atI_2, atI_3, atI_4, atI_5, le_line, M.setT, M.ownD, M.dput, M.dget, M.keysD, M.ext, M.getW, runF, M.isFn, ml, c1, ga, lp]

end Lw
namespace Lw
open PySem L2 DL
variable {rs ps : List PyData}
theorem plc_int {o : Option Nat} {i : Nat} : plc o = .int i ↔ o = some i := by
  cases o with
  | none => simp [plc]
  | some j => simp only [plc, PyData.int.injEq, Option.some.injEq]; omega
theorem told_iff (hr : ∀ r ∈ rs, ruleOk r) {i : Nat} : PyData.int i ∈ TOLD rs ps ↔ ∃ a ∈ asks ps, ∃ w ∈ OW, ∃ rw o k p f, PyData.tuple [rw, .str o, .str k, .str p] ∈ rs ∧ f ∈ [p, "", "count", "other"] ∧ rs.findIdx? (hitR a (.str o) (.str k) (.str f) w) = some i := by
  unfold TOLD g4 g3
  simp only [List.mem_flatMap]
  constructor
  · rintro ⟨a, ha, w, hw, d, hd, hm⟩
    obtain ⟨r, hr', rfl⟩ := SR_mem.mp hd
    obtain ⟨_, rw, o, k, p, rfl, e⟩ := key3_mem (hr r hr')
    rw [e] at hm
    obtain ⟨f, hf, hq⟩ := List.mem_map.mp (show _ ∈ (FS p).map (g1 rs a w (.str o) (.str k)) from hm)
    exact ⟨a, ha, w, hw, rw, o, k, p, f, hr', FS_mem.mp hf, plc_int.mp hq⟩
  · rintro ⟨a, ha, w, hw, rw, o, k, p, f, hr', hf, hq⟩
    refine ⟨a, ha, w, hw, keyD (key3 (.tuple [rw, .str o, .str k, .str p])), SR_mem.mpr ⟨_, hr', rfl⟩, ?_⟩
    show _ ∈ (FS p).map (g1 rs a w (.str o) (.str k))
    exact List.mem_map.mpr ⟨f, FS_mem.mpr hf, plc_int.mpr hq⟩
def nrm (a w : PyData) : PyData := match a with
  | .tuple [n, _] => if PyData.eqv n w = true then n else .str ""
  | _ => .str ""
theorem nrm_tab : ∀ rw ∈ WHO, ∀ a ∈ ASK, ∀ w ∈ OW, forB rw a (nrm a w) = forB rw a w := by
  have h : (WHO.all fun w => ASK.all fun a => OW.all fun o => forB w a (nrm a o) == forB w a o) = true := by decide +kernel
  exact fun w hw a ha o ho => by
    have := List.all_eq_true.mp (List.all_eq_true.mp (List.all_eq_true.mp h w hw) a ha) o ho
    simpa using this
theorem nrm_way (hp : ps ∈ PSS) {a w : PyData} (ha : a ∈ asks ps) : PyData.tuple [a, nrm a w] ∈ Wd ps := by
  unfold Wd
  rcases List.mem_cons.mp ha with rfl | ha
  · exact List.mem_cons_self
  · obtain ⟨p, h, rfl⟩ := List.mem_map.mp ha
    refine List.mem_cons_of_mem _ (List.mem_flatMap.mpr ⟨p, h, ?_⟩)
    obtain ⟨n, wd, rl, rfl⟩ : ∃ n wd rl, p = .tuple [n, wd, rl] := by rcases (pers hp).2 p h with rfl | rfl | rfl | rfl <;> exact ⟨_, _, _, rfl⟩
    simp only [askOf, nrm, wayOf]
    split <;> simp
theorem way_ask (hp : ps ∈ PSS) {a w : PyData} (h : PyData.tuple [a, w] ∈ Wd ps) : a ∈ asks ps := by
  unfold Wd at h
  rcases List.mem_cons.mp h with e | h
  · cases e; exact List.mem_cons_self
  · obtain ⟨p, hm, hd⟩ := List.mem_flatMap.mp h
    refine List.mem_cons_of_mem _ (List.mem_map.mpr ⟨p, hm, ?_⟩)
    obtain ⟨n, wd, rl, rfl⟩ : ∃ n wd rl, p = .tuple [n, wd, rl] := by rcases (pers hp).2 p hm with rfl | rfl | rfl | rfl <;> exact ⟨_, _, _, rfl⟩
    simp only [wayOf, List.mem_cons, List.not_mem_nil, or_false, PyData.tuple.injEq, List.cons.injEq, and_true] at hd
    rcases hd with ⟨e, _⟩ | ⟨e, _⟩ <;> exact e.symm
theorem idx_iff {p : PyData → Bool} {i : Nat} : rs.findIdx? p = some i ↔ ∃ h : i < rs.length, p rs[i] = true ∧ ∀ (j : Nat) (hj : j < i), p (rs[j]'(Nat.lt_trans hj h)) = false := by
  rw [List.findIdx?_eq_some_iff_getElem]
  constructor
  · rintro ⟨h, h1, h2⟩
    exact ⟨h, h1, fun j hj => by simpa using h2 j hj⟩
  · rintro ⟨h, h1, h2⟩
    exact ⟨h, h1, fun j hj => by simpa using h2 j hj⟩
theorem str_eqv {a b : Str} : PyData.eqv (.str a) (.str b) = true ↔ a = b := by simp [PyData.eqv]
theorem hit_str {a w : PyData} {o k f : Str} {rw : PyData} {ro rk rf : Str} : hitR a (.str o) (.str k) (.str f) w (.tuple [rw, .str ro, .str rk, .str rf]) = true ↔ (ro = o ∧ rk = k) ∧ ("" = rf ∨ f = rf) ∧ forB rw a w = true := by
  simp only [hitR, Bool.and_eq_true, Bool.or_eq_true, str_eqv, and_assoc]
theorem told_way (hr : ∀ r ∈ rs, ruleOk r) (hp : ps ∈ PSS) {i : Nat} {r : PyData} (hi : rs[i]? = some r) : PyData.int i ∈ TOLD rs ps ↔ ∃ d ∈ Wd ps, byWay rs i r d = true := by
  obtain ⟨hlt, e⟩ := List.getElem?_eq_some_iff.mp hi
  have hm : r ∈ rs := List.mem_of_getElem? hi
  obtain ⟨w0, ro, rk, rf, rfl, _, _, _⟩ := rule_strs (hr r hm)
  rw [told_iff hr]
  constructor
  · rintro ⟨a, ha, w, hw, rw', o, k, p, f, hr', hf, hq⟩
    refine ⟨.tuple [a, nrm a w], nrm_way hp ha, ?_⟩
    have haA := asks_ok hp a ha
    have same : ∀ x ∈ rs, hitR a (.str o) (.str k) (.str f) (nrm a w) x = hitR a (.str o) (.str k) (.str f) w x := fun x hx => by
      obtain ⟨xw, xo, xk, xf, rfl, h1, _, _, _⟩ := hr x hx
      simp only [hitR]
      rw [nrm_tab xw h1 a haA w hw]
    obtain ⟨h0, h1, h2⟩ := idx_iff.mp hq
    rw [← same _ (List.getElem_mem h0), e, hit_str] at h1
    obtain ⟨⟨rfl, rfl⟩, h4, h5⟩ := h1
    simp only [byWay, rDeed, rKind, rFld, beq_iff_eq]
    refine idx_iff.mpr ⟨h0, ?_, fun j hj => ?_⟩
    · rw [e, hit_str]
      exact ⟨⟨rfl, rfl⟩, .inr rfl, h5⟩
    · have hjm : rs[j]'(Nat.lt_trans hj h0) ∈ rs := List.getElem_mem _
      have h3 := h2 j hj
      rw [← same _ hjm] at h3
      obtain ⟨jw, jo, jk, jf, ej, _, _, _⟩ := rule_strs (hr _ hjm)
      rw [ej] at h3 ⊢
      cases q : hitR a (.str ro) (.str rk) (.str rf) (nrm a w) (.tuple [jw, .str jo, .str jk, .str jf]) with
      | false => rfl
      | true =>
        obtain ⟨q1, q2, q3⟩ := hit_str.mp q
        have : hitR a (.str ro) (.str rk) (.str f) (nrm a w) (.tuple [jw, .str jo, .str jk, .str jf]) = true := by
          refine hit_str.mpr ⟨q1, ?_, q3⟩
          rcases q2 with q2 | q2
          · exact .inl q2
          · rcases h4 with h4 | h4
            · exact .inl (h4.trans q2)
            · exact .inr (h4.trans q2)
        rw [this] at h3; cases h3
  · rintro ⟨d, hd, hq⟩
    obtain ⟨a, w, rfl, ha, hw⟩ := way_ok hp hd
    simp only [byWay, rDeed, rKind, rFld, beq_iff_eq] at hq
    exact ⟨a, way_ask hp hd, w, hw, w0, ro, rk, rf, rf, hm, by simp, hq⟩
theorem told_nb (hr : ∀ r ∈ rs, ruleOk r) (hp : ps ∈ PSS) {i : Nat} (hi : i < rs.length) : PyData.int i ∈ NB rs (Wd ps) ↔ ¬ PyData.int i ∈ TOLD rs ps := by
  have hg : rs[i]? = some rs[i] := List.getElem?_eq_getElem hi
  rw [told_way hr hp hg, nb_mem]
  constructor
  · rintro ⟨r, h1, h2⟩ ⟨d, hd, hb⟩
    rw [hg] at h1; cases h1
    rw [h2 d hd] at hb; cases hb
  · intro h
    refine ⟨_, hg, fun d hd => ?_⟩
    cases q : byWay rs i rs[i] d with
    | false => rfl
    | true => exact absurd ⟨d, hd, q⟩ h
/-! ### the two lists -/
def upD (a b : PyData) : Prop := ∃ i j : Nat, a = .int i ∧ b = .int j ∧ i < j
theorem upD_asymm (a b : PyData) (h : upD a b) (h' : upD b a) : False := by
  obtain ⟨i, j, rfl, rfl, h1⟩ := h
  obtain ⟨k, l, e1, e2, h2⟩ := h'
  simp only [PyData.int.injEq] at e1 e2
  omega
theorem upD_nodup {l : List PyData} (h : l.Pairwise upD) : l.Nodup := h.imp fun {a b} h e => by
  obtain ⟨i, j, rfl, rfl, h1⟩ := h
  simp only [PyData.int.injEq] at e
  omega
theorem enum_up (rs : List PyData) : ((enumD rs).map num).Pairwise upD := by
  have e : (enumD rs).map num = (List.range' 0 rs.length).map fun (i : Nat) => PyData.int i := by
    have := List.zipIdx_map_snd 0 rs
    rw [← this]
    unfold enumD
    rw [List.map_map, List.map_map]
    rfl
  rw [e, List.pairwise_map]
  exact (List.pairwise_lt_range' (s := 0) (n := rs.length)).imp fun {a b} h => ⟨a, b, rfl, rfl, h⟩
def isTold (T : List PyData) (x : PyData) : Bool := T.any fun z => PyData.eqv z x
theorem plc_flat (o : Option Nat) : flat (plc o) = true := by cases o <;> rfl
theorem told_form {x : PyData} (h : x ∈ TOLD rs ps) (hr : ∀ r ∈ rs, ruleOk r) : ∃ o, x = plc o := by
  unfold TOLD g4 g3 at h
  simp only [List.mem_flatMap] at h
  obtain ⟨a, _, w, _, d, hd, hm⟩ := h
  obtain ⟨r, hr', rfl⟩ := SR_mem.mp hd
  obtain ⟨_, rw, o, k, p, rfl, e⟩ := key3_mem (hr r hr')
  rw [e] at hm
  obtain ⟨f, _, hq⟩ := List.mem_map.mp (show _ ∈ (FS p).map (g1 rs a w (.str o) (.str k)) from hm)
  exact ⟨_, hq.symm⟩
theorem isTold_iff (hr : ∀ r ∈ rs, ruleOk r) {i : Nat} : isTold (TOLD rs ps) (.int i) = true ↔ PyData.int i ∈ TOLD rs ps := by
  unfold isTold
  rw [List.any_eq_true]
  constructor
  · rintro ⟨z, hz, h⟩
    obtain ⟨o, rfl⟩ := told_form hz hr
    cases o with
    | none => simp [plc, PyData.eqv] at h
    | some j =>
      simp only [plc, PyData.eqv, beq_iff_eq] at h
      have : j = i := by omega
      subst this
      exact hz
  · intro h
    exact ⟨_, h, by simp [PyData.eqv]⟩
def due (rs ps : List PyData) : List PyData := ((List.range rs.length).map fun (i : Nat) => PyData.int i).filter fun x => !isTold (TOLD rs ps) x
theorem due_nb (hr : ∀ r ∈ rs, ruleOk r) (hp : ps ∈ PSS) : NB rs (Wd ps) = due rs ps := by
  have u1 : (NB rs (Wd ps)).Pairwise upD := by
    unfold NB
    exact (enum_up rs).sublist (List.filter_sublist.map num)
  have u2 : (due rs ps).Pairwise upD := by
    unfold due
    refine List.Pairwise.sublist List.filter_sublist ?_
    rw [List.pairwise_map]
    exact List.pairwise_lt_range.imp fun {a b} h => ⟨a, b, rfl, rfl, h⟩
  refine sorted_same upD_asymm ((List.perm_ext_iff_of_nodup (upD_nodup u1) (upD_nodup u2)).mpr fun x => ?_) u1 u2
  constructor
  · intro h
    obtain ⟨i, rfl⟩ := nb_int h
    obtain ⟨r, h1, _⟩ := nb_mem.mp h
    have hi := (List.getElem?_eq_some_iff.mp h1).1
    refine List.mem_filter.mpr ⟨List.mem_map.mpr ⟨i, List.mem_range.mpr hi, rfl⟩, ?_⟩
    have := (told_nb hr hp hi).mp h
    rw [← isTold_iff hr] at this
    simpa using this
  · intro h
    obtain ⟨h1, h2⟩ := List.mem_filter.mp h
    obtain ⟨i, hi, rfl⟩ := List.mem_map.mp h1
    refine (told_nb hr hp (List.mem_range.mp hi)).mpr ?_
    rw [← isTold_iff hr]
    simpa using h2
end Lw
namespace Lw
open PySem L2 DL
theorem due_rq (rs ps : List PyData) (hl : rs.length ≤ 8) : rq 1 200 (.tuple (due rs ps)) := by
  refine (rq_tuple (n := 0) (m := 12) (k := 8) (fun d hd => ?_) ?_).mono (Nat.le_refl _) (by omega)
  · obtain ⟨h1, _⟩ := List.mem_filter.mp hd
    obtain ⟨i, hi, rfl⟩ := List.mem_map.mp h1
    have := List.mem_range.mp hi
    exact rq_int9 (by omega) (by omega) (by omega)
  · unfold due
    have := List.length_filter_le (fun x => !isTold (TOLD rs ps) x) ((List.range rs.length).map fun (i : Nat) => PyData.int i)
    simp at this
    omega
theorem range_int (k : Int) (h : k < 2 ^ 62 ∧ -(2 ^ 62) ≤ k) : rangeD [.int k] = some ((List.range k.toNat).map fun (i : Nat) => .int i) := if_pos h
theorem range_ok (n : Nat) (k : Int) (hk : k = (n : Int)) (h : n ≤ 1000) : rangeD [.int k] = some ((List.range n).map fun (i : Nat) => .int i) := by
  have hr := range_int k (by omega)
  have e : k.toNat = n := by omega
  rw [e] at hr
  exact hr
variable {s1 s2 s3 s4 s5 s6 s7 s8 s9 : Option Sv} {ns : List Int}

theorem L1_law (c f : Int) : ∃ c' t6 t7 t8 t9, b_law_L1 [some (.frz (ns.map .int)), s1, s2, s3, some (.lis false [.int c, .int f]), s5, s6, s7, s8, s9, none] = .ok .nx [some (.frz (ns.map .int)), s1, s2, s3, some (.lis false [.int c', .int f]), s5, t6, t7, t8, t9, none] := by
  obtain ⟨ks, c1, k1, hk⟩ := kinds_spec c f
  obtain ⟨rs, c2, r1, r2, hr⟩ := rules_spec c1 f ks hk
  obtain ⟨ps, c', p1, hp⟩ := people_spec c2 f
  have t1 := told_spec (by omega) hr hp
  have n1 := nobody_spec rs ps (by omega) hr hp
  rw [due_nb hr hp] at n1
  obtain ⟨k, hkl⟩ : ∃ k : Int, k = (rs.length : Int) := ⟨_, rfl⟩
  have gl : gLen [.tuple rs] = some (.int k) := by rw [hkl]; rfl
  have rl : rangeD [.int k] = some ((List.range rs.length).map fun (i : Nat) => .int i) := range_ok rs.length k hkl (by omega)
  have cf := mLC_pure (vs := [10]) (t := .nm 10) (tt := b_law_T1) (fe := b_law_C1) (ds := (List.range rs.length).map fun (i : Nat) => .int i) (e := [some (.frz (ns.map .int)), s1, s2, s3, some (.lis false [.int c', .int f]), s5, some (.dat (.tuple rs)), some (.dat (.tuple ps)), some (.dat (.list (TOLD rs ps))), s9, none]) (fun x => !isTold (TOLD rs ps) x) id rfl (le_line (by simp; omega)) (fun x hx => by
    obtain ⟨i, hi, rfl⟩ := List.mem_map.mp hx
    refine ⟨[some (.frz (ns.map .int)), s1, s2, s3, some (.lis false [.int c', .int f]), s5, some (.dat (.tuple rs)), some (.dat (.tuple ps)), some (.dat (.list (TOLD rs ps))), s9, some (.dat (.int i))], [some (.frz (ns.map .int)), s1, s2, s3, some (.lis false [.int c', .int f]), s5, some (.dat (.tuple rs)), some (.dat (.tuple ps)), some (.dat (.list (TOLD rs ps))), s9, some (.dat (.int i))], rfl, ?_, rfl, fun _ => ⟨[some (.frz (ns.map .int)), s1, s2, s3, some (.lis false [.int c', .int f]), s5, some (.dat (.tuple rs)), some (.dat (.tuple ps)), some (.dat (.list (TOLD rs ps))), s9, some (.dat (.int i))], ?_, rfl⟩⟩
    · have gi : gNotIn (.int i) (.list (TOLD rs ps)) = some (.bool (!isTold (TOLD rs ps) (.int i))) := by
        have fl : (TOLD rs ps).all flat = true := List.all_eq_true.mpr fun z hz => by
          obtain ⟨o, rfl⟩ := told_form hz hr
          exact plc_flat o
        unfold gNotIn gInL isTold
        dsimp only
        rw [if_pos ⟨rfl, fl⟩]
      generalize TOLD rs ps = TT at *
      simp [b_law_T1, bind_run, pure_run, M.get, M.lift, asB, gi]
    · simp [b_law_C1, M.get])
  rw [List.map_id] at cf
  change mLC _ _ _ _ _ _ = .ok (.list (due rs ps)) _ at cf
  have dr := due_rq rs ps (by omega)
  obtain ⟨z, zr⟩ : ∃ z, gReprA [.tuple (due rs ps)] = some (.str z) := ⟨_, dr.repr (by omega) (by omega)⟩
  have zn : gNe (.str z) (.str z) = some (.bool false) := by rw [gNe_str]; simp
  have m2 : mkTup [.tuple rs, .tuple ps] = some (.tuple [.tuple rs, .tuple ps]) := rfl
  refine ⟨c', some (.dat (.tuple rs)), some (.dat (.tuple ps)), some (.dat (.list (TOLD rs ps))), some (.dat (.tuple (due rs ps))), ?_⟩
  clear dr hkl
  generalize TOLD rs ps = TT at *
  generalize due rs ps = DD at *
  unfold b_law_L1
  refine (mSeq_nx (e' := [some (.frz (ns.map .int)), s1, s2, s3, some (.lis false [.int c', .int f]), s5, some (.dat (.tuple rs)), some (.dat (.tuple ps)), s8, s9, none]) ?_).trans ?_
  · simp [bind_run, pure_run, M.ownL, M.callP, M.lift, M.tset, Tg.set, Tg.setL, k1, r1, p1, m2]
  refine (mSeq_nx (e' := [some (.frz (ns.map .int)), s1, s2, s3, some (.lis false [.int c', .int f]), s5, some (.dat (.tuple rs)), some (.dat (.tuple ps)), some (.dat (.list TT)), s9, none]) ?_).trans ?_
  · simp [bind_run, pure_run, M.get, M.ofRes, M.setD, t1]
  refine (mSeq_nx (e' := [some (.frz (ns.map .int)), s1, s2, s3, some (.lis false [.int c', .int f]), s5, some (.dat (.tuple rs)), some (.dat (.tuple ps)), some (.dat (.list TT)), some (.dat (.tuple DD)), none]) ?_).trans ?_
  · simp [bind_run, pure_run, M.get, M.lift, M.setD, gl, items, rl, cf, gTuple]
  · simp [bind_run, pure_run, M.get, M.lift, M.ofRes, asB, n1, zr, zn]

theorem L2_law (n : Int) : ∃ t4 t5 t6 t7 t8 t9, b_law_L2 [some (.frz (ns.map .int)), s1, s2, some (.dat (.int n)), s4, s5, s6, s7, s8, s9, none] = .ok .nx [some (.frz (ns.map .int)), s1, s2, some (.dat (.int n)), t4, t5, t6, t7, t8, t9, none] := by
  obtain ⟨f, p1⟩ := pen_spec n
  have rr : rangeD [.int 4] = some ((List.range 4).map fun (i : Nat) => .int i) := range_ok 4 4 (by omega) (by omega)
  obtain ⟨e', lp, c', t5, t6, t7, t8, t9, rfl⟩ := forM_on (t := .nm 5) (b := b_law_L1) (fun (i : Nat) => PyData.int i) (List.range 4) [some (.frz (ns.map .int)), s1, s2, some (.dat (.int n)), some (.lis false [.int n, .int f]), s5, s6, s7, s8, s9, none]
    (fun _ e => ∃ c' t5 t6 t7 t8 t9, e = [some (.frz (ns.map .int)), s1, s2, some (.dat (.int n)), some (.lis false [.int c', .int f]), t5, t6, t7, t8, t9, none]) ⟨_, _, _, _, _, _, rfl⟩ (by
    rintro pre i rest e hp ⟨c', t5, t6, t7, t8, t9, rfl⟩
    obtain ⟨c2, u6, u7, u8, u9, st⟩ := L1_law (ns := ns) (s1 := s1) (s2 := s2) (s3 := some (.dat (.int n))) (s5 := some (.dat (.int i))) (s6 := t6) (s7 := t7) (s8 := t8) (s9 := t9) c' f
    exact ⟨_, _, rfl, st, _, _, _, _, _, _, rfl⟩)
  refine ⟨some (.lis false [.int c', .int f]), t5, t6, t7, t8, t9, ?_⟩
  unfold b_law_L2
  refine (mSeq_nx (e' := [some (.frz (ns.map .int)), s1, s2, some (.dat (.int n)), some (.lis false [.int n, .int f]), s5, s6, s7, s8, s9, none]) ?_).trans ?_
  · simp [bind_run, pure_run, M.get, M.ofRes, M.setL, p1]
  · simp [bind_run, pure_run, M.lift, rr, lp]

theorem cut_int (ns : List Int) (l h : Option Int) : ∃ ms : List Int, cutD (ns.map .int) l h = ms.map .int ∧ ms.length ≤ ns.length := by
  unfold cutD
  refine ⟨((ns.drop _).take _), by rw [List.map_take, List.map_drop], ?_⟩
  rw [List.length_take, List.length_drop]; omega
def FST : PyData := .tuple [.tuple [.str "all", .str "see", .str "note", .str "count"], .tuple [.str "known", .str "see", .str "note", .str ""], .tuple [.str "own", .str "see", .str "note", .str ""]]
def BTH : PyData := .tuple [.tuple [.tuple [.str "role", .str "a"], .str "see", .str "note", .str ""], .tuple [.tuple [.str "role", .str "b"], .str "see", .str "note", .str ""], .tuple [.str "known", .str "see", .str "note", .str ""]]
theorem law_true (ns : List Int) (hl : ns.length ≤ 63) : m_law (ns.map .int) [] = .ok (.bool true) := by
  obtain ⟨c0, h0⟩ := cell_spec ns 0 (by omega)
  obtain ⟨ms, h1, h2⟩ := cut_int ns (some 1) (some 2)
  obtain ⟨e', g, t3, t4, t5, t6, t7, t8, t9, rfl⟩ := forM_on (t := .nm 3) (b := b_law_L2) (fun n : Int => PyData.int n) (c0 :: ms) [some (.frz (ns.map .int)), some (.dat (FST)), some (.dat (BTH)), none, none, none, none, none, none, none, none]
    (fun _ e => ∃ t3 t4 t5 t6 t7 t8 t9, e = [some (.frz (ns.map .int)), some (.dat (FST)), some (.dat (BTH)), t3, t4, t5, t6, t7, t8, t9, none]) ⟨_, _, _, _, _, _, _, rfl⟩ (by
    rintro pre n rest e ha ⟨t3, t4, t5, t6, t7, t8, t9, rfl⟩
    obtain ⟨u4, u5, u6, u7, u8, u9, st⟩ := L2_law (ns := ns) (s1 := some (.dat FST)) (s2 := some (.dat BTH)) (s4 := t4) (s5 := t5) (s6 := t6) (s7 := t7) (s8 := t8) (s9 := t9) n
    exact ⟨_, _, rfl, st, _, _, _, _, _, _, _, rfl⟩)
  have h3 : 1 + ms.length ≤ sizeLine := le_line (by omega)
  simp only [List.map_cons] at g
  have hb : b_law [some (.frz (ns.map .int)), none, none, none, none, none, none, none, none, none, none] = .ok (.rt (.bool true)) [some (.frz (ns.map .int)), some (.dat (FST)), some (.dat (BTH)), t3, t4, t5, t6, t7, t8, t9, none] := by
    unfold b_law
    refine (mSeq_nx (e' := [some (.frz (ns.map .int)), some (.dat (FST)), none, none, none, none, none, none, none, none, none]) (by kernel_rfl)).trans ?_
    refine (mSeq_nx (e' := [some (.frz (ns.map .int)), some (.dat (FST)), none, none, none, none, none, none, none, none, none]) (by kernel_rfl)).trans ?_
    refine (mSeq_nx (e' := [some (.frz (ns.map .int)), some (.dat (FST)), some (.dat (BTH)), none, none, none, none, none, none, none, none]) (by kernel_rfl)).trans ?_
    refine (mSeq_nx (e' := [some (.frz (ns.map .int)), some (.dat (FST)), some (.dat (BTH)), none, none, none, none, none, none, none, none]) (by kernel_rfl)).trans ?_
    generalize FST = FF at *
    generalize BTH = BB at *
    refine (mSeq_nx (e' := [some (.frz (ns.map .int)), some (.dat (FF)), some (.dat (BB)), t3, t4, t5, t6, t7, t8, t9, none]) ?_).trans ?_
    · simp [bind_run, pure_run, M.scr, M.ofRes, M.lift, asI, items, mkLst_ok, le_line, gAdd, h0, h1, h3, g]
    · rfl
  simp [m_law, runC, startE, hb]

end Lw
namespace Lw
open PySem L2 DL
structure Tx (K : PySem.W.Frag) (mg : Str → Option Value) : Prop where
  b_all : mg "all" = none
  b_any : mg "any" = none
  b_enumerate : mg "enumerate" = none
  b_int : mg "int" = none
  b_isinstance : mg "isinstance" = none
  b_len : mg "len" = none
  b_range : mg "range" = none
  b_repr : mg "repr" = none
  b_set : mg "set" = none
  b_sorted : mg "sorted" = none
  b_str : mg "str" = none
  b_tuple : mg "tuple" = none
  b_zip : mg "zip" = none
  g_ALL : Glob K mg "ALL" c_ALL
  g_DEEDS : Glob K mg "DEEDS" c_DEEDS
  g_FIGURES : Glob K mg "FIGURES" c_FIGURES
  g_KNOWN : Glob K mg "KNOWN" c_KNOWN
  g_LETTERS : Glob K mg "LETTERS" c_LETTERS
  g_MOST_PEOPLE : Glob K mg "MOST_PEOPLE" c_MOST_PEOPLE
  g_MOST_RULES : Glob K mg "MOST_RULES" c_MOST_RULES
  g_MOST_SIGNS : Glob K mg "MOST_SIGNS" c_MOST_SIGNS
  g_OWN : Glob K mg "OWN" c_OWN
  g_ROLE : Glob K mg "ROLE" c_ROLE
  e_NoPeople : ExcCl K mg "NoPeople"
  e_NoRules : ExcCl K mg "NoRules"
section
variable {P : Program} {w : World} {K : PySem.W.Frag} {mg : Str → Option Value} {base : Heap}
abbrev n_is_made_of : List Str := ["thing", "signs", "most", "sign"]
theorem sc_is_made_of : FnScope n_is_made_of ["thing", "signs", "most"] (defScope s_is_made_of) := ⟨rfl, rfl, rfl, by decide +kernel, rfl, by decide +kernel, by decide +kernel⟩
theorem body_is_made_of (T : Tx K mg) {f : Addr} : Body P w K mg base n_is_made_of 0 "is_made_of" s_is_made_of f b_is_made_of := fun cdv A outer s H E cd hr =>
  (dss_one (ds_ret (de_and (de_isi ty_str bt_str T.b_isinstance T.b_str (de_var 0)) (de_and (de_chain o_le o_le de_int (de_callB c_len T.b_len bt_len (da_cons (de_var 0) da_nil)) (de_var 2)) (de_one (de_callB (c_all rfl) T.b_all bt_all (da_cons (de_lc (own := [("sign", 3)]) rfl sc_is_made_of.nd (di_any (de_var 0)) (blkOk_by (own := [("sign", 3)]) (N := n_is_made_of) (sc := defScope s_is_made_of) (by decide +kernel)) (fun _ _ _ _ _ => (dg_name (i := 3) sc_is_made_of.nd)) (fun _ _ _ _ _ => dts_nil) (fun _ _ _ _ _ => (de_cmp (o_in (hu65 hr)) (de_var 3) (de_var 1))) (by decide)) da_nil)))))))
theorem ok_is_made_of (T : Tx K mg) {f : Addr} {fd : FuncData} (F : FunD K "is_made_of" "is_made_of" (defArgs s_is_made_of) (defBody s_is_made_of) (defScope s_is_made_of) [] [] f fd) : FnG P w K mg base (L2.CX P w) 1 f fd ["thing", "signs", "most"] (spA K mg m_is_made_of) :=
  fnA F sc_is_made_of (body_is_made_of T)
theorem is_is_made_of (T : Tx K mg) {f : Addr} {fd : FuncData} (F : FunD K "is_made_of" "is_made_of" (defArgs s_is_made_of) (defBody s_is_made_of) (defScope s_is_made_of) [] [] f fd) (hm : mg "is_made_of" = some (.ref f)) : FnIs P w K mg base "is_made_of" 1 (spA K mg m_is_made_of) :=
  fn_is (ps := ["thing", "signs", "most"]) F hm (fun _ _ _ _ _ _ us hl => match us, hl with | [_, _, _], _ => rfl) (ok_is_made_of T F)
abbrev n_is_name : List Str := ["thing"]
theorem sc_is_name : FnScope n_is_name ["thing"] (defScope s_is_name) := ⟨rfl, rfl, rfl, by decide +kernel, rfl, by decide +kernel, by decide +kernel⟩
theorem body_is_name (T : Tx K mg) (h_is_made_of : FnIs P w K mg base "is_made_of" 1 (spA K mg m_is_made_of)) {f : Addr} : Body P w K mg base n_is_name 1 "is_name" s_is_name f b_is_name := fun cdv A outer s H E cd hr =>
  (dss_one (ds_ret (de_callA h_is_made_of (hr.mono (by decide)) cx_def (da_cons (de_var 0) (da_cons (de_glob T.g_LETTERS) (da_cons (de_glob T.g_MOST_SIGNS) da_nil))))))
theorem ok_is_name (T : Tx K mg) (h_is_made_of : FnIs P w K mg base "is_made_of" 1 (spA K mg m_is_made_of)) {f : Addr} {fd : FuncData} (F : FunD K "is_name" "is_name" (defArgs s_is_name) (defBody s_is_name) (defScope s_is_name) [] [] f fd) : FnG P w K mg base (L2.CX P w) 2 f fd ["thing"] (spA K mg m_is_name) :=
  fnA F sc_is_name (body_is_name T h_is_made_of)
theorem is_is_name (T : Tx K mg) (h_is_made_of : FnIs P w K mg base "is_made_of" 1 (spA K mg m_is_made_of)) {f : Addr} {fd : FuncData} (F : FunD K "is_name" "is_name" (defArgs s_is_name) (defBody s_is_name) (defScope s_is_name) [] [] f fd) (hm : mg "is_name" = some (.ref f)) : FnIs P w K mg base "is_name" 2 (spA K mg m_is_name) :=
  fn_is (ps := ["thing"]) F hm (fun _ _ _ _ _ _ us hl => match us, hl with | [_], _ => rfl) (ok_is_name T h_is_made_of F)
abbrev n_is_word : List Str := ["thing"]
theorem sc_is_word : FnScope n_is_word ["thing"] (defScope s_is_word) := ⟨rfl, rfl, rfl, by decide +kernel, rfl, by decide +kernel, by decide +kernel⟩
theorem body_is_word (T : Tx K mg) (h_is_made_of : FnIs P w K mg base "is_made_of" 1 (spA K mg m_is_made_of)) {f : Addr} : Body P w K mg base n_is_word 1 "is_word" s_is_word f b_is_word := fun cdv A outer s H E cd hr =>
  (dss_one (ds_ret (de_callA h_is_made_of (hr.mono (by decide)) cx_def (da_cons (de_var 0) (da_cons (de_bin o_add (de_bin o_add (de_glob T.g_LETTERS) (de_glob T.g_FIGURES)) de_str) (da_cons (de_glob T.g_MOST_SIGNS) da_nil))))))
theorem ok_is_word (T : Tx K mg) (h_is_made_of : FnIs P w K mg base "is_made_of" 1 (spA K mg m_is_made_of)) {f : Addr} {fd : FuncData} (F : FunD K "is_word" "is_word" (defArgs s_is_word) (defBody s_is_word) (defScope s_is_word) [] [] f fd) : FnG P w K mg base (L2.CX P w) 2 f fd ["thing"] (spA K mg m_is_word) :=
  fnA F sc_is_word (body_is_word T h_is_made_of)
theorem is_is_word (T : Tx K mg) (h_is_made_of : FnIs P w K mg base "is_made_of" 1 (spA K mg m_is_made_of)) {f : Addr} {fd : FuncData} (F : FunD K "is_word" "is_word" (defArgs s_is_word) (defBody s_is_word) (defScope s_is_word) [] [] f fd) (hm : mg "is_word" = some (.ref f)) : FnIs P w K mg base "is_word" 2 (spA K mg m_is_word) :=
  fn_is (ps := ["thing"]) F hm (fun _ _ _ _ _ _ us hl => match us, hl with | [_], _ => rfl) (ok_is_word T h_is_made_of F)
abbrev n_is_shaped : List Str := ["thing", "many"]
theorem sc_is_shaped : FnScope n_is_shaped ["thing", "many"] (defScope s_is_shaped) := ⟨rfl, rfl, rfl, by decide +kernel, rfl, by decide +kernel, by decide +kernel⟩
theorem body_is_shaped (T : Tx K mg) {f : Addr} : Body P w K mg base n_is_shaped 0 "is_shaped" s_is_shaped f b_is_shaped := fun cdv A outer s H E cd hr =>
  (dss_one (ds_ret (de_and (de_isi ty_tuple bt_tuple T.b_isinstance T.b_tuple (de_var 0)) (de_one (de_cmp (o_eq hr.units) (de_callB c_len T.b_len bt_len (da_cons (de_var 0) da_nil)) (de_var 1))))))
theorem ok_is_shaped (T : Tx K mg) {f : Addr} {fd : FuncData} (F : FunD K "is_shaped" "is_shaped" (defArgs s_is_shaped) (defBody s_is_shaped) (defScope s_is_shaped) [] [] f fd) : FnG P w K mg base (L2.CX P w) 1 f fd ["thing", "many"] (spA K mg m_is_shaped) :=
  fnA F sc_is_shaped (body_is_shaped T)
theorem is_is_shaped (T : Tx K mg) {f : Addr} {fd : FuncData} (F : FunD K "is_shaped" "is_shaped" (defArgs s_is_shaped) (defBody s_is_shaped) (defScope s_is_shaped) [] [] f fd) (hm : mg "is_shaped" = some (.ref f)) : FnIs P w K mg base "is_shaped" 1 (spA K mg m_is_shaped) :=
  fn_is (ps := ["thing", "many"]) F hm (fun _ _ _ _ _ _ us hl => match us, hl with | [_, _], _ => rfl) (ok_is_shaped T F)
abbrev n_are_unlike : List Str := ["things"]
theorem sc_are_unlike : FnScope n_are_unlike ["things"] (defScope s_are_unlike) := ⟨rfl, rfl, rfl, by decide +kernel, rfl, by decide +kernel, by decide +kernel⟩
theorem body_are_unlike (T : Tx K mg) {f : Addr} : Body P w K mg base n_are_unlike 0 "are_unlike" s_are_unlike f b_are_unlike := fun cdv A outer s H E cd hr =>
  (dss_one (ds_ret (de_cmp (o_eq hr.units) (de_lenSet rfl T.b_len T.b_set (de_var 0)) (de_callB c_len T.b_len bt_len (da_cons (de_var 0) da_nil)))))
theorem ok_are_unlike (T : Tx K mg) {f : Addr} {fd : FuncData} (F : FunD K "are_unlike" "are_unlike" (defArgs s_are_unlike) (defBody s_are_unlike) (defScope s_are_unlike) [] [] f fd) : FnG P w K mg base (L2.CX P w) 1 f fd ["things"] (spA K mg m_are_unlike) :=
  fnA F sc_are_unlike (body_are_unlike T)
theorem is_are_unlike (T : Tx K mg) {f : Addr} {fd : FuncData} (F : FunD K "are_unlike" "are_unlike" (defArgs s_are_unlike) (defBody s_are_unlike) (defScope s_are_unlike) [] [] f fd) (hm : mg "are_unlike" = some (.ref f)) : FnIs P w K mg base "are_unlike" 1 (spA K mg m_are_unlike) :=
  fn_is (ps := ["things"]) F hm (fun _ _ _ _ _ _ us hl => match us, hl with | [_], _ => rfl) (ok_are_unlike T F)
abbrev n_are_rising : List Str := ["things", "one", "other"]
theorem sc_are_rising : FnScope n_are_rising ["things"] (defScope s_are_rising) := ⟨rfl, rfl, rfl, by decide +kernel, rfl, by decide +kernel, by decide +kernel⟩
theorem body_are_rising (T : Tx K mg) {f : Addr} : Body P w K mg base n_are_rising 0 "are_rising" s_are_rising f b_are_rising := fun cdv A outer s H E cd hr =>
  (dss_one (ds_ret (de_callB (c_all rfl) T.b_all bt_all (da_cons (de_lc (own := [("one", 1), ("other", 2)]) rfl sc_are_rising.nd (di_zip T.b_zip (da_cons (de_var 0) (da_cons (de_sl (de_var 0) (do_some de_int) do_none) da_nil))) (blkOk_by (own := [("one", 1), ("other", 2)]) (N := n_are_rising) (sc := defScope s_are_rising) (by decide +kernel)) (fun _ _ _ _ _ => (dg_tup rfl (dgs_cons (dg_name (i := 1) sc_are_rising.nd) (dgs_cons (dg_name (i := 2) sc_are_rising.nd) dgs_nil)))) (fun _ _ _ _ _ => dts_nil) (fun _ _ _ _ _ => (de_cmp (o_ltA hr.units) (de_var 1) (de_var 2))) (by decide)) da_nil))))
theorem ok_are_rising (T : Tx K mg) {f : Addr} {fd : FuncData} (F : FunD K "are_rising" "are_rising" (defArgs s_are_rising) (defBody s_are_rising) (defScope s_are_rising) [] [] f fd) : FnG P w K mg base (L2.CX P w) 1 f fd ["things"] (spA K mg m_are_rising) :=
  fnA F sc_are_rising (body_are_rising T)
theorem is_are_rising (T : Tx K mg) {f : Addr} {fd : FuncData} (F : FunD K "are_rising" "are_rising" (defArgs s_are_rising) (defBody s_are_rising) (defScope s_are_rising) [] [] f fd) (hm : mg "are_rising" = some (.ref f)) : FnIs P w K mg base "are_rising" 1 (spA K mg m_are_rising) :=
  fn_is (ps := ["things"]) F hm (fun _ _ _ _ _ _ us hl => match us, hl with | [_], _ => rfl) (ok_are_rising T F)
abbrev n_is_owner : List Str := ["thing"]
theorem sc_is_owner : FnScope n_is_owner ["thing"] (defScope s_is_owner) := ⟨rfl, rfl, rfl, by decide +kernel, rfl, by decide +kernel, by decide +kernel⟩
theorem body_is_owner (T : Tx K mg) (h_is_name : FnIs P w K mg base "is_name" 2 (spA K mg m_is_name)) {f : Addr} : Body P w K mg base n_is_owner 2 "is_owner" s_is_owner f b_is_owner := fun cdv A outer s H E cd hr =>
  (dss_one (ds_ret (de_and (de_isi ty_str bt_str T.b_isinstance T.b_str (de_var 0)) (de_one (de_or (de_cmp (o_eq hr.units) (de_var 0) de_str) (de_one (de_callA h_is_name (hr.mono (by decide)) cx_def (da_cons (de_var 0) da_nil))))))))
theorem ok_is_owner (T : Tx K mg) (h_is_name : FnIs P w K mg base "is_name" 2 (spA K mg m_is_name)) {f : Addr} {fd : FuncData} (F : FunD K "is_owner" "is_owner" (defArgs s_is_owner) (defBody s_is_owner) (defScope s_is_owner) [] [] f fd) : FnG P w K mg base (L2.CX P w) 3 f fd ["thing"] (spA K mg m_is_owner) :=
  fnA F sc_is_owner (body_is_owner T h_is_name)
theorem is_is_owner (T : Tx K mg) (h_is_name : FnIs P w K mg base "is_name" 2 (spA K mg m_is_name)) {f : Addr} {fd : FuncData} (F : FunD K "is_owner" "is_owner" (defArgs s_is_owner) (defBody s_is_owner) (defScope s_is_owner) [] [] f fd) (hm : mg "is_owner" = some (.ref f)) : FnIs P w K mg base "is_owner" 3 (spA K mg m_is_owner) :=
  fn_is (ps := ["thing"]) F hm (fun _ _ _ _ _ _ us hl => match us, hl with | [_], _ => rfl) (ok_is_owner T h_is_name F)
abbrev n_is_who : List Str := ["thing"]
theorem sc_is_who : FnScope n_is_who ["thing"] (defScope s_is_who) := ⟨rfl, rfl, rfl, by decide +kernel, rfl, by decide +kernel, by decide +kernel⟩
theorem body_is_who (T : Tx K mg) (h_is_shaped : FnIs P w K mg base "is_shaped" 1 (spA K mg m_is_shaped)) (h_is_name : FnIs P w K mg base "is_name" 2 (spA K mg m_is_name)) {f : Addr} : Body P w K mg base n_is_who 2 "is_who" s_is_who f b_is_who := fun cdv A outer s H E cd hr =>
  (dss_cons (ds_if (dt_val (de_isi ty_str bt_str T.b_isinstance T.b_str (de_var 0))) (dss_one (ds_ret (de_cmp (o_inB (hu65 hr)) (de_var 0) (de_tup (da_cons (de_glob T.g_ALL) (da_cons (de_glob T.g_KNOWN) (da_cons (de_glob T.g_OWN) da_nil))))))) dss_nil)
      (dss_one (ds_ret (de_and (de_callA h_is_shaped (hr.mono (by decide)) cx_def (da_cons (de_var 0) (da_cons de_int da_nil))) (de_and (de_isi ty_str bt_str T.b_isinstance T.b_str (de_ix i_seq (de_var 0) de_int)) (de_and (de_cmp (o_eq hr.units) (de_ix i_seq (de_var 0) de_int) (de_glob T.g_ROLE)) (de_one (de_callA h_is_name (hr.mono (by decide)) cx_def (da_cons (de_ix i_seq (de_var 0) de_int) da_nil)))))))))
theorem ok_is_who (T : Tx K mg) (h_is_shaped : FnIs P w K mg base "is_shaped" 1 (spA K mg m_is_shaped)) (h_is_name : FnIs P w K mg base "is_name" 2 (spA K mg m_is_name)) {f : Addr} {fd : FuncData} (F : FunD K "is_who" "is_who" (defArgs s_is_who) (defBody s_is_who) (defScope s_is_who) [] [] f fd) : FnG P w K mg base (L2.CX P w) 3 f fd ["thing"] (spA K mg m_is_who) :=
  fnA F sc_is_who (body_is_who T h_is_shaped h_is_name)
theorem is_is_who (T : Tx K mg) (h_is_shaped : FnIs P w K mg base "is_shaped" 1 (spA K mg m_is_shaped)) (h_is_name : FnIs P w K mg base "is_name" 2 (spA K mg m_is_name)) {f : Addr} {fd : FuncData} (F : FunD K "is_who" "is_who" (defArgs s_is_who) (defBody s_is_who) (defScope s_is_who) [] [] f fd) (hm : mg "is_who" = some (.ref f)) : FnIs P w K mg base "is_who" 3 (spA K mg m_is_who) :=
  fn_is (ps := ["thing"]) F hm (fun _ _ _ _ _ _ us hl => match us, hl with | [_], _ => rfl) (ok_is_who T h_is_shaped h_is_name F)
abbrev n_is_rights_deed : List Str := ["thing"]
theorem sc_is_rights_deed : FnScope n_is_rights_deed ["thing"] (defScope s_is_rights_deed) := ⟨rfl, rfl, rfl, by decide +kernel, rfl, by decide +kernel, by decide +kernel⟩
theorem body_is_rights_deed (T : Tx K mg) {f : Addr} : Body P w K mg base n_is_rights_deed 0 "is_rights_deed" s_is_rights_deed f b_is_rights_deed := fun cdv A outer s H E cd hr =>
  (dss_one (ds_ret (de_and (de_isi ty_str bt_str T.b_isinstance T.b_str (de_var 0)) (de_one (de_cmp (o_in (hu65 hr)) (de_var 0) (de_glob T.g_DEEDS))))))
theorem ok_is_rights_deed (T : Tx K mg) {f : Addr} {fd : FuncData} (F : FunD K "is_rights_deed" "is_rights_deed" (defArgs s_is_rights_deed) (defBody s_is_rights_deed) (defScope s_is_rights_deed) [] [] f fd) : FnG P w K mg base (L2.CX P w) 1 f fd ["thing"] (spA K mg m_is_rights_deed) :=
  fnA F sc_is_rights_deed (body_is_rights_deed T)
theorem is_is_rights_deed (T : Tx K mg) {f : Addr} {fd : FuncData} (F : FunD K "is_rights_deed" "is_rights_deed" (defArgs s_is_rights_deed) (defBody s_is_rights_deed) (defScope s_is_rights_deed) [] [] f fd) (hm : mg "is_rights_deed" = some (.ref f)) : FnIs P w K mg base "is_rights_deed" 1 (spA K mg m_is_rights_deed) :=
  fn_is (ps := ["thing"]) F hm (fun _ _ _ _ _ _ us hl => match us, hl with | [_], _ => rfl) (ok_is_rights_deed T F)
abbrev n_is_rule : List Str := ["thing"]
theorem sc_is_rule : FnScope n_is_rule ["thing"] (defScope s_is_rule) := ⟨rfl, rfl, rfl, by decide +kernel, rfl, by decide +kernel, by decide +kernel⟩
theorem body_is_rule (T : Tx K mg) (h_is_name : FnIs P w K mg base "is_name" 2 (spA K mg m_is_name)) (h_is_owner : FnIs P w K mg base "is_owner" 3 (spA K mg m_is_owner)) (h_is_shaped : FnIs P w K mg base "is_shaped" 1 (spA K mg m_is_shaped)) (h_is_who : FnIs P w K mg base "is_who" 3 (spA K mg m_is_who)) (h_is_rights_deed : FnIs P w K mg base "is_rights_deed" 1 (spA K mg m_is_rights_deed)) {f : Addr} : Body P w K mg base n_is_rule 3 "is_rule" s_is_rule f b_is_rule := fun cdv A outer s H E cd hr =>
  (dss_cons (ds_if (DW.dt (dw_or (dt_not (dt_val (de_callA h_is_shaped (hr.mono (by decide)) cx_def (da_cons (de_var 0) (da_cons de_int da_nil))))) (dw_or (dt_not (dt_val (de_callA h_is_who (hr.mono (by decide)) cx_def (da_cons (de_ix i_seq (de_var 0) de_int) da_nil)))) (dw_or1 (dt_not (dt_val (de_callA h_is_rights_deed (hr.mono (by decide)) cx_def (da_cons (de_ix i_seq (de_var 0) de_int) da_nil)))))))) (dss_one (ds_ret de_bool)) dss_nil)
      (dss_one (ds_ret (de_and (de_callA h_is_name (hr.mono (by decide)) cx_def (da_cons (de_ix i_seq (de_var 0) de_int) da_nil)) (de_one (de_callA h_is_owner (hr.mono (by decide)) cx_def (da_cons (de_ix i_seq (de_var 0) de_int) da_nil)))))))
theorem ok_is_rule (T : Tx K mg) (h_is_name : FnIs P w K mg base "is_name" 2 (spA K mg m_is_name)) (h_is_owner : FnIs P w K mg base "is_owner" 3 (spA K mg m_is_owner)) (h_is_shaped : FnIs P w K mg base "is_shaped" 1 (spA K mg m_is_shaped)) (h_is_who : FnIs P w K mg base "is_who" 3 (spA K mg m_is_who)) (h_is_rights_deed : FnIs P w K mg base "is_rights_deed" 1 (spA K mg m_is_rights_deed)) {f : Addr} {fd : FuncData} (F : FunD K "is_rule" "is_rule" (defArgs s_is_rule) (defBody s_is_rule) (defScope s_is_rule) [] [] f fd) : FnG P w K mg base (L2.CX P w) 4 f fd ["thing"] (spA K mg m_is_rule) :=
  fnA F sc_is_rule (body_is_rule T h_is_name h_is_owner h_is_shaped h_is_who h_is_rights_deed)
theorem is_is_rule (T : Tx K mg) (h_is_name : FnIs P w K mg base "is_name" 2 (spA K mg m_is_name)) (h_is_owner : FnIs P w K mg base "is_owner" 3 (spA K mg m_is_owner)) (h_is_shaped : FnIs P w K mg base "is_shaped" 1 (spA K mg m_is_shaped)) (h_is_who : FnIs P w K mg base "is_who" 3 (spA K mg m_is_who)) (h_is_rights_deed : FnIs P w K mg base "is_rights_deed" 1 (spA K mg m_is_rights_deed)) {f : Addr} {fd : FuncData} (F : FunD K "is_rule" "is_rule" (defArgs s_is_rule) (defBody s_is_rule) (defScope s_is_rule) [] [] f fd) (hm : mg "is_rule" = some (.ref f)) : FnIs P w K mg base "is_rule" 4 (spA K mg m_is_rule) :=
  fn_is (ps := ["thing"]) F hm (fun _ _ _ _ _ _ us hl => match us, hl with | [_], _ => rfl) (ok_is_rule T h_is_name h_is_owner h_is_shaped h_is_who h_is_rights_deed F)
abbrev n_are_rules : List Str := ["thing", "one"]
theorem sc_are_rules : FnScope n_are_rules ["thing"] (defScope s_are_rules) := ⟨rfl, rfl, rfl, by decide +kernel, rfl, by decide +kernel, by decide +kernel⟩
theorem body_are_rules (T : Tx K mg) (h_is_rule : FnIs P w K mg base "is_rule" 4 (spA K mg m_is_rule)) {f : Addr} : Body P w K mg base n_are_rules 4 "are_rules" s_are_rules f b_are_rules := fun cdv A outer s H E cd hr =>
  (dss_one (ds_ret (de_and (de_isi ty_tuple bt_tuple T.b_isinstance T.b_tuple (de_var 0)) (de_and (de_cmp o_le (de_callB c_len T.b_len bt_len (da_cons (de_var 0) da_nil)) (de_glob T.g_MOST_RULES)) (de_one (de_callB (c_all rfl) T.b_all bt_all (da_cons (de_lc (own := [("one", 1)]) rfl sc_are_rules.nd (di_any (de_var 0)) (blkOk_by (own := [("one", 1)]) (N := n_are_rules) (sc := defScope s_are_rules) (by decide +kernel)) (fun _ _ _ _ _ => (dg_name (i := 1) sc_are_rules.nd)) (fun _ _ _ _ _ => dts_nil) (fun _ _ _ _ _ => (de_callA h_is_rule (hr.mono (by decide)) cx_blk (da_cons (de_var 1) da_nil))) (by decide)) da_nil)))))))
theorem ok_are_rules (T : Tx K mg) (h_is_rule : FnIs P w K mg base "is_rule" 4 (spA K mg m_is_rule)) {f : Addr} {fd : FuncData} (F : FunD K "are_rules" "are_rules" (defArgs s_are_rules) (defBody s_are_rules) (defScope s_are_rules) [] [] f fd) : FnG P w K mg base (L2.CX P w) 5 f fd ["thing"] (spA K mg m_are_rules) :=
  fnA F sc_are_rules (body_are_rules T h_is_rule)
theorem is_are_rules (T : Tx K mg) (h_is_rule : FnIs P w K mg base "is_rule" 4 (spA K mg m_is_rule)) {f : Addr} {fd : FuncData} (F : FunD K "are_rules" "are_rules" (defArgs s_are_rules) (defBody s_are_rules) (defScope s_are_rules) [] [] f fd) (hm : mg "are_rules" = some (.ref f)) : FnIs P w K mg base "are_rules" 5 (spA K mg m_are_rules) :=
  fn_is (ps := ["thing"]) F hm (fun _ _ _ _ _ _ us hl => match us, hl with | [_], _ => rfl) (ok_are_rules T h_is_rule F)
abbrev n_need_rules : List Str := ["thing"]
theorem sc_need_rules : FnScope n_need_rules ["thing"] (defScope s_need_rules) := ⟨rfl, rfl, rfl, by decide +kernel, rfl, by decide +kernel, by decide +kernel⟩
theorem body_need_rules (T : Tx K mg) (h_are_rules : FnIs P w K mg base "are_rules" 5 (spA K mg m_are_rules)) {f : Addr} : Body P w K mg base n_need_rules 5 "need_rules" s_need_rules f b_need_rules := fun cdv A outer s H E cd hr =>
  (dss_one (ds_if (dt_not (dt_val (de_callA h_are_rules (hr.mono (by decide)) cx_def (da_cons (de_var 0) da_nil)))) (dss_one (ds_raise T.e_NoRules cx_def rfl)) dss_nil))
theorem ok_need_rules (T : Tx K mg) (h_are_rules : FnIs P w K mg base "are_rules" 5 (spA K mg m_are_rules)) {f : Addr} {fd : FuncData} (F : FunD K "need_rules" "need_rules" (defArgs s_need_rules) (defBody s_need_rules) (defScope s_need_rules) [] [] f fd) : FnG P w K mg base (L2.CX P w) 6 f fd ["thing"] (spA K mg m_need_rules) :=
  fnA F sc_need_rules (body_need_rules T h_are_rules)
theorem is_need_rules (T : Tx K mg) (h_are_rules : FnIs P w K mg base "are_rules" 5 (spA K mg m_are_rules)) {f : Addr} {fd : FuncData} (F : FunD K "need_rules" "need_rules" (defArgs s_need_rules) (defBody s_need_rules) (defScope s_need_rules) [] [] f fd) (hm : mg "need_rules" = some (.ref f)) : FnIs P w K mg base "need_rules" 6 (spA K mg m_need_rules) :=
  fn_is (ps := ["thing"]) F hm (fun _ _ _ _ _ _ us hl => match us, hl with | [_], _ => rfl) (ok_need_rules T h_are_rules F)
abbrev n_are_roles : List Str := ["thing", "one"]
theorem sc_are_roles : FnScope n_are_roles ["thing"] (defScope s_are_roles) := ⟨rfl, rfl, rfl, by decide +kernel, rfl, by decide +kernel, by decide +kernel⟩
theorem body_are_roles (T : Tx K mg) (h_are_rising : FnIs P w K mg base "are_rising" 1 (spA K mg m_are_rising)) (h_is_name : FnIs P w K mg base "is_name" 2 (spA K mg m_is_name)) {f : Addr} : Body P w K mg base n_are_roles 2 "are_roles" s_are_roles f b_are_roles := fun cdv A outer s H E cd hr =>
  (dss_one (ds_ret (de_and (de_isi ty_tuple bt_tuple T.b_isinstance T.b_tuple (de_var 0)) (de_and (de_callB (c_all rfl) T.b_all bt_all (da_cons (de_lc (own := [("one", 1)]) rfl sc_are_roles.nd (di_any (de_var 0)) (blkOk_by (own := [("one", 1)]) (N := n_are_roles) (sc := defScope s_are_roles) (by decide +kernel)) (fun _ _ _ _ _ => (dg_name (i := 1) sc_are_roles.nd)) (fun _ _ _ _ _ => dts_nil) (fun _ _ _ _ _ => (de_callA h_is_name (hr.mono (by decide)) cx_blk (da_cons (de_var 1) da_nil))) (by decide)) da_nil)) (de_one (de_callA h_are_rising (hr.mono (by decide)) cx_def (da_cons (de_var 0) da_nil)))))))
theorem ok_are_roles (T : Tx K mg) (h_are_rising : FnIs P w K mg base "are_rising" 1 (spA K mg m_are_rising)) (h_is_name : FnIs P w K mg base "is_name" 2 (spA K mg m_is_name)) {f : Addr} {fd : FuncData} (F : FunD K "are_roles" "are_roles" (defArgs s_are_roles) (defBody s_are_roles) (defScope s_are_roles) [] [] f fd) : FnG P w K mg base (L2.CX P w) 3 f fd ["thing"] (spA K mg m_are_roles) :=
  fnA F sc_are_roles (body_are_roles T h_are_rising h_is_name)
theorem is_are_roles (T : Tx K mg) (h_are_rising : FnIs P w K mg base "are_rising" 1 (spA K mg m_are_rising)) (h_is_name : FnIs P w K mg base "is_name" 2 (spA K mg m_is_name)) {f : Addr} {fd : FuncData} (F : FunD K "are_roles" "are_roles" (defArgs s_are_roles) (defBody s_are_roles) (defScope s_are_roles) [] [] f fd) (hm : mg "are_roles" = some (.ref f)) : FnIs P w K mg base "are_roles" 3 (spA K mg m_are_roles) :=
  fn_is (ps := ["thing"]) F hm (fun _ _ _ _ _ _ us hl => match us, hl with | [_], _ => rfl) (ok_are_roles T h_are_rising h_is_name F)
abbrev n_is_for : List Str := ["who", "asker", "owner"]
theorem sc_is_for : FnScope n_is_for ["who", "asker", "owner"] (defScope s_is_for) := ⟨rfl, rfl, rfl, by decide +kernel, rfl, by decide +kernel, by decide +kernel⟩
theorem body_is_for (T : Tx K mg) {f : Addr} : Body P w K mg base n_is_for 0 "is_for" s_is_for f b_is_for := fun cdv A outer s H E cd hr =>
  (dss_cons (ds_if (dt_cmp (o_eq hr.units) (de_var 0) (de_glob T.g_ALL)) (dss_one (ds_ret de_bool)) dss_nil)
      (dss_cons (ds_if (dt_cmp o_is (de_var 1) de_none) (dss_one (ds_ret de_bool)) dss_nil)
      (dss_cons (ds_if (dt_cmp (o_eq hr.units) (de_var 0) (de_glob T.g_KNOWN)) (dss_one (ds_ret de_bool)) dss_nil)
      (dss_one (ds_ret (de_if (dt_cmp (o_eq hr.units) (de_var 0) (de_glob T.g_OWN)) (de_cmp (o_eq hr.units) (de_ix i_seq (de_var 1) de_int) (de_var 2)) (de_cmp (o_in (hu65 hr)) (de_ix i_seq (de_var 0) de_int) (de_ix i_seq (de_var 1) de_int))))))))
theorem ok_is_for (T : Tx K mg) {f : Addr} {fd : FuncData} (F : FunD K "is_for" "is_for" (defArgs s_is_for) (defBody s_is_for) (defScope s_is_for) [] [] f fd) : FnG P w K mg base (L2.CX P w) 1 f fd ["who", "asker", "owner"] (spA K mg m_is_for) :=
  fnA F sc_is_for (body_is_for T)
theorem is_is_for (T : Tx K mg) {f : Addr} {fd : FuncData} (F : FunD K "is_for" "is_for" (defArgs s_is_for) (defBody s_is_for) (defScope s_is_for) [] [] f fd) (hm : mg "is_for" = some (.ref f)) : FnIs P w K mg base "is_for" 1 (spA K mg m_is_for) :=
  fn_is (ps := ["who", "asker", "owner"]) F hm (fun _ _ _ _ _ _ us hl => match us, hl with | [_, _, _], _ => rfl) (ok_is_for T F)
abbrev n_let_by : List Str := ["rules", "asker", "deed", "kind", "field", "owner", "place", "who", "own", "its", "part"]
theorem sc_let_by : FnScope n_let_by ["rules", "asker", "deed", "kind", "field", "owner"] (defScope s_let_by) := ⟨rfl, rfl, rfl, by decide +kernel, rfl, by decide +kernel, by decide +kernel⟩
theorem body_let_by (T : Tx K mg) (h_is_for : FnIs P w K mg base "is_for" 1 (spA K mg m_is_for)) {f : Addr} : Body P w K mg base n_let_by 1 "let_by" s_let_by f b_let_by := fun cdv A outer s H E cd hr =>
  (dss_cons (ds_for cx_def rfl (di_enum T.b_enumerate (da_cons (de_var 0) da_nil)) (dg_tup rfl (dgs_cons (dg_name (i := 6) sc_let_by.nd) (dgs_cons (dg_tup rfl (dgs_cons (dg_name (i := 7) sc_let_by.nd) (dgs_cons (dg_name (i := 8) sc_let_by.nd) (dgs_cons (dg_name (i := 9) sc_let_by.nd) (dgs_cons (dg_name (i := 10) sc_let_by.nd) dgs_nil))))) dgs_nil))) (dss_one (ds_if (DW.dt (dw_and (dt_cmp (o_eq hr.units) (de_tup (da_cons (de_var 8) (da_cons (de_var 9) da_nil))) (de_tup (da_cons (de_var 2) (da_cons (de_var 3) da_nil)))) (dw_and (dt_cmp (o_inB (hu65 hr)) (de_var 10) (de_tup (da_cons de_str (da_cons (de_var 4) da_nil)))) (dw_and1 (dt_val (de_callA h_is_for (hr.mono (by decide)) cx_def (da_cons (de_var 7) (da_cons (de_var 1) (da_cons (de_var 5) da_nil))))))))) (dss_one (ds_ret (de_var 6))) dss_nil)))
      (dss_one (ds_ret de_none)))
theorem ok_let_by (T : Tx K mg) (h_is_for : FnIs P w K mg base "is_for" 1 (spA K mg m_is_for)) {f : Addr} {fd : FuncData} (F : FunD K "let_by" "let_by" (defArgs s_let_by) (defBody s_let_by) (defScope s_let_by) [] [] f fd) : FnG P w K mg base (L2.CX P w) 2 f fd ["rules", "asker", "deed", "kind", "field", "owner"] (spA K mg m_let_by) :=
  fnA F sc_let_by (body_let_by T h_is_for)
theorem is_let_by (T : Tx K mg) (h_is_for : FnIs P w K mg base "is_for" 1 (spA K mg m_is_for)) {f : Addr} {fd : FuncData} (F : FunD K "let_by" "let_by" (defArgs s_let_by) (defBody s_let_by) (defScope s_let_by) [] [] f fd) (hm : mg "let_by" = some (.ref f)) : FnIs P w K mg base "let_by" 2 (spA K mg m_let_by) :=
  fn_is (ps := ["rules", "asker", "deed", "kind", "field", "owner"]) F hm (fun _ _ _ _ _ _ us hl => match us, hl with | [_, _, _, _, _, _], _ => rfl) (ok_let_by T h_is_for F)
abbrev n_is_person : List Str := ["thing"]
theorem sc_is_person : FnScope n_is_person ["thing"] (defScope s_is_person) := ⟨rfl, rfl, rfl, by decide +kernel, rfl, by decide +kernel, by decide +kernel⟩
theorem body_is_person (T : Tx K mg) (h_is_shaped : FnIs P w K mg base "is_shaped" 1 (spA K mg m_is_shaped)) (h_is_name : FnIs P w K mg base "is_name" 2 (spA K mg m_is_name)) (h_is_word : FnIs P w K mg base "is_word" 2 (spA K mg m_is_word)) (h_are_roles : FnIs P w K mg base "are_roles" 3 (spA K mg m_are_roles)) {f : Addr} : Body P w K mg base n_is_person 3 "is_person" s_is_person f b_is_person := fun cdv A outer s H E cd hr =>
  (dss_one (ds_ret (de_and (de_callA h_is_shaped (hr.mono (by decide)) cx_def (da_cons (de_var 0) (da_cons de_int da_nil))) (de_and (de_callA h_is_name (hr.mono (by decide)) cx_def (da_cons (de_ix i_seq (de_var 0) de_int) da_nil)) (de_and (de_callA h_is_word (hr.mono (by decide)) cx_def (da_cons (de_ix i_seq (de_var 0) de_int) da_nil)) (de_one (de_callA h_are_roles (hr.mono (by decide)) cx_def (da_cons (de_ix i_seq (de_var 0) de_int) da_nil))))))))
theorem ok_is_person (T : Tx K mg) (h_is_shaped : FnIs P w K mg base "is_shaped" 1 (spA K mg m_is_shaped)) (h_is_name : FnIs P w K mg base "is_name" 2 (spA K mg m_is_name)) (h_is_word : FnIs P w K mg base "is_word" 2 (spA K mg m_is_word)) (h_are_roles : FnIs P w K mg base "are_roles" 3 (spA K mg m_are_roles)) {f : Addr} {fd : FuncData} (F : FunD K "is_person" "is_person" (defArgs s_is_person) (defBody s_is_person) (defScope s_is_person) [] [] f fd) : FnG P w K mg base (L2.CX P w) 4 f fd ["thing"] (spA K mg m_is_person) :=
  fnA F sc_is_person (body_is_person T h_is_shaped h_is_name h_is_word h_are_roles)
theorem is_is_person (T : Tx K mg) (h_is_shaped : FnIs P w K mg base "is_shaped" 1 (spA K mg m_is_shaped)) (h_is_name : FnIs P w K mg base "is_name" 2 (spA K mg m_is_name)) (h_is_word : FnIs P w K mg base "is_word" 2 (spA K mg m_is_word)) (h_are_roles : FnIs P w K mg base "are_roles" 3 (spA K mg m_are_roles)) {f : Addr} {fd : FuncData} (F : FunD K "is_person" "is_person" (defArgs s_is_person) (defBody s_is_person) (defScope s_is_person) [] [] f fd) (hm : mg "is_person" = some (.ref f)) : FnIs P w K mg base "is_person" 4 (spA K mg m_is_person) :=
  fn_is (ps := ["thing"]) F hm (fun _ _ _ _ _ _ us hl => match us, hl with | [_], _ => rfl) (ok_is_person T h_is_shaped h_is_name h_is_word h_are_roles F)
abbrev n_are_people : List Str := ["thing", "one", "name", "word", "roles"]
theorem sc_are_people : FnScope n_are_people ["thing"] (defScope s_are_people) := ⟨rfl, rfl, rfl, by decide +kernel, rfl, by decide +kernel, by decide +kernel⟩
theorem body_are_people (T : Tx K mg) (h_are_unlike : FnIs P w K mg base "are_unlike" 1 (spA K mg m_are_unlike)) (h_is_person : FnIs P w K mg base "is_person" 4 (spA K mg m_is_person)) {f : Addr} : Body P w K mg base n_are_people 4 "are_people" s_are_people f b_are_people := fun cdv A outer s H E cd hr =>
  (dss_cons (ds_if (DW.dt (dw_or (dt_not (dt_val (de_isi ty_tuple bt_tuple T.b_isinstance T.b_tuple (de_var 0)))) (dw_or (dt_cmp o_gt (de_callB c_len T.b_len bt_len (da_cons (de_var 0) da_nil)) (de_glob T.g_MOST_PEOPLE)) (dw_or1 (dt_not (dt_val (de_callB (c_all rfl) T.b_all bt_all (da_cons (de_lc (own := [("one", 1)]) rfl sc_are_people.nd (di_any (de_var 0)) (blkOk_by (own := [("one", 1)]) (N := n_are_people) (sc := defScope s_are_people) (by decide +kernel)) (fun _ _ _ _ _ => (dg_name (i := 1) sc_are_people.nd)) (fun _ _ _ _ _ => dts_nil) (fun _ _ _ _ _ => (de_callA h_is_person (hr.mono (by decide)) cx_blk (da_cons (de_var 1) da_nil))) (by decide)) da_nil)))))))) (dss_one (ds_ret de_bool)) dss_nil)
      (dss_one (ds_ret (de_callA h_are_unlike (hr.mono (by decide)) cx_def (da_cons (de_lc (own := [("name", 2), ("word", 3), ("roles", 4)]) rfl sc_are_people.nd (di_any (de_var 0)) (blkOk_by (own := [("name", 2), ("word", 3), ("roles", 4)]) (N := n_are_people) (sc := defScope s_are_people) (by decide +kernel)) (fun _ _ _ _ _ => (dg_tup rfl (dgs_cons (dg_name (i := 2) sc_are_people.nd) (dgs_cons (dg_name (i := 3) sc_are_people.nd) (dgs_cons (dg_name (i := 4) sc_are_people.nd) dgs_nil))))) (fun _ _ _ _ _ => dts_nil) (fun _ _ _ _ _ => (de_var 2)) (by decide)) da_nil)))))
theorem ok_are_people (T : Tx K mg) (h_are_unlike : FnIs P w K mg base "are_unlike" 1 (spA K mg m_are_unlike)) (h_is_person : FnIs P w K mg base "is_person" 4 (spA K mg m_is_person)) {f : Addr} {fd : FuncData} (F : FunD K "are_people" "are_people" (defArgs s_are_people) (defBody s_are_people) (defScope s_are_people) [] [] f fd) : FnG P w K mg base (L2.CX P w) 5 f fd ["thing"] (spA K mg m_are_people) :=
  fnA F sc_are_people (body_are_people T h_are_unlike h_is_person)
theorem is_are_people (T : Tx K mg) (h_are_unlike : FnIs P w K mg base "are_unlike" 1 (spA K mg m_are_unlike)) (h_is_person : FnIs P w K mg base "is_person" 4 (spA K mg m_is_person)) {f : Addr} {fd : FuncData} (F : FunD K "are_people" "are_people" (defArgs s_are_people) (defBody s_are_people) (defScope s_are_people) [] [] f fd) (hm : mg "are_people" = some (.ref f)) : FnIs P w K mg base "are_people" 5 (spA K mg m_are_people) :=
  fn_is (ps := ["thing"]) F hm (fun _ _ _ _ _ _ us hl => match us, hl with | [_], _ => rfl) (ok_are_people T h_are_unlike h_is_person F)
abbrev n_nobody : List Str := ["rules", "people", "ways", "name", "word", "roles", "found", "place", "who", "deed", "kind", "field", "asker", "owner"]
theorem sc_nobody : FnScope n_nobody ["rules", "people"] (defScope s_nobody) := ⟨rfl, rfl, rfl, by decide +kernel, rfl, by decide +kernel, by decide +kernel⟩
theorem body_nobody (T : Tx K mg) (h_need_rules : FnIs P w K mg base "need_rules" 6 (spA K mg m_need_rules)) (h_are_people : FnIs P w K mg base "are_people" 5 (spA K mg m_are_people)) (h_let_by : FnIs P w K mg base "let_by" 2 (spA K mg m_let_by)) {f : Addr} : Body P w K mg base n_nobody 6 "nobody" s_nobody f b_nobody := fun cdv A outer s H E cd hr =>
  (dss_cons (ds_expr (de_callA h_need_rules (hr.mono (by decide)) cx_def (da_cons (de_var 0) da_nil)))
      (dss_cons (ds_if (dt_not (dt_val (de_callA h_are_people (hr.mono (by decide)) cx_def (da_cons (de_var 1) da_nil)))) (dss_one (ds_raise T.e_NoPeople cx_def rfl)) dss_nil)
      (dss_cons (ds_setL (i := 2) sc_nobody.nd (da_cons (de_tup (da_cons de_none (da_cons de_str da_nil))) da_nil))
      (dss_cons (ds_for cx_def rfl (di_any (de_var 1)) (dg_tup rfl (dgs_cons (dg_name (i := 3) sc_nobody.nd) (dgs_cons (dg_name (i := 4) sc_nobody.nd) (dgs_cons (dg_name (i := 5) sc_nobody.nd) dgs_nil)))) (dss_one (ds_ext (i := 2) (de_lst (da_cons (de_tup (da_cons (de_tup (da_cons (de_var 3) (da_cons (de_var 5) da_nil))) (da_cons de_str da_nil))) (da_cons (de_tup (da_cons (de_tup (da_cons (de_var 3) (da_cons (de_var 5) da_nil))) (da_cons (de_var 3) da_nil))) da_nil))))))
      (dss_cons (ds_setL (i := 6) sc_nobody.nd da_nil)
      (dss_cons (ds_for cx_def rfl (di_enum T.b_enumerate (da_cons (de_var 0) da_nil)) (dg_tup rfl (dgs_cons (dg_name (i := 7) sc_nobody.nd) (dgs_cons (dg_tup rfl (dgs_cons (dg_name (i := 8) sc_nobody.nd) (dgs_cons (dg_name (i := 9) sc_nobody.nd) (dgs_cons (dg_name (i := 10) sc_nobody.nd) (dgs_cons (dg_name (i := 11) sc_nobody.nd) dgs_nil))))) dgs_nil))) (dss_one (ds_if (dt_not (dt_val (de_callB (c_any rfl) T.b_any bt_any (da_cons (de_lc (own := [("asker", 12), ("owner", 13)]) rfl sc_nobody.nd (di_any (de_var 2)) (blkOk_by (own := [("asker", 12), ("owner", 13)]) (N := n_nobody) (sc := defScope s_nobody) (by decide +kernel)) (fun _ _ _ _ _ => (dg_tup rfl (dgs_cons (dg_name (i := 12) sc_nobody.nd) (dgs_cons (dg_name (i := 13) sc_nobody.nd) dgs_nil)))) (fun _ _ _ _ _ => dts_nil) (fun _ _ _ _ _ => (de_cmp (o_eq hr.units) (de_callA h_let_by (hr.mono (by decide)) cx_blk (da_cons (de_var 0) (da_cons (de_var 12) (da_cons (de_var 9) (da_cons (de_var 10) (da_cons (de_var 11) (da_cons (de_var 13) da_nil))))))) (de_var 7))) (by decide)) da_nil)))) (dss_one (ds_app (i := 6) (de_var 7))) dss_nil)))
      (dss_one (ds_ret (de_callTy c_tuple T.b_tuple bt_tuple (da_cons (de_var 6) da_nil))))))))))
theorem ok_nobody (T : Tx K mg) (h_need_rules : FnIs P w K mg base "need_rules" 6 (spA K mg m_need_rules)) (h_are_people : FnIs P w K mg base "are_people" 5 (spA K mg m_are_people)) (h_let_by : FnIs P w K mg base "let_by" 2 (spA K mg m_let_by)) {f : Addr} {fd : FuncData} (F : FunD K "nobody" "nobody" (defArgs s_nobody) (defBody s_nobody) (defScope s_nobody) [] [] f fd) : FnG P w K mg base (L2.CX P w) 7 f fd ["rules", "people"] (spA K mg m_nobody) :=
  fnA F sc_nobody (body_nobody T h_need_rules h_are_people h_let_by)
theorem is_nobody (T : Tx K mg) (h_need_rules : FnIs P w K mg base "need_rules" 6 (spA K mg m_need_rules)) (h_are_people : FnIs P w K mg base "are_people" 5 (spA K mg m_are_people)) (h_let_by : FnIs P w K mg base "let_by" 2 (spA K mg m_let_by)) {f : Addr} {fd : FuncData} (F : FunD K "nobody" "nobody" (defArgs s_nobody) (defBody s_nobody) (defScope s_nobody) [] [] f fd) (hm : mg "nobody" = some (.ref f)) : FnIs P w K mg base "nobody" 7 (spA K mg m_nobody) :=
  fn_is (ps := ["rules", "people"]) F hm (fun _ _ _ _ _ _ us hl => match us, hl with | [_, _], _ => rfl) (ok_nobody T h_need_rules h_are_people h_let_by F)
abbrev n__law_cell : List Str := ["_law_script", "_law_k"]
theorem sc__law_cell : FnScope n__law_cell ["_law_script", "_law_k"] (defScope s__law_cell) := ⟨rfl, rfl, rfl, by decide +kernel, rfl, by decide +kernel, by decide +kernel⟩
theorem body__law_cell (T : Tx K mg) {f : Addr} : Body P w K mg base n__law_cell 0 "_law_cell" s__law_cell f b__law_cell := fun cdv A outer s H E cd hr =>
  (dss_cons (ds_if (dt_cmp (o_ltA hr.units) (de_var 1) (de_lenC (i := 0) T.b_len)) (dss_one (ds_ret (de_ixC (i := 0) (de_var 1)))) dss_nil)
      (dss_one (ds_ret de_int)))
theorem ok__law_cell (T : Tx K mg) {f : Addr} {fd : FuncData} (F : FunD K "_law_cell" "_law_cell" (defArgs s__law_cell) (defBody s__law_cell) (defScope s__law_cell) [] [] f fd) : FnG P w K mg base (L2.CX P w) 1 f fd ["_law_script", "_law_k"] (spC K mg m__law_cell) :=
  fnC F sc__law_cell rfl (body__law_cell T)
theorem is__law_cell (T : Tx K mg) {f : Addr} {fd : FuncData} (F : FunD K "_law_cell" "_law_cell" (defArgs s__law_cell) (defBody s__law_cell) (defScope s__law_cell) [] [] f fd) (hm : mg "_law_cell" = some (.ref f)) : FnIs P w K mg base "_law_cell" 1 (spC K mg m__law_cell) :=
  fn_is (ps := ["_law_script", "_law_k"]) F hm (fun _ _ _ _ _ _ us hl => match us, hl with | [_, _], _ => rfl) (ok__law_cell T F)
abbrev n__law_pen : List Str := ["_law_cell_here"]
theorem sc__law_pen : FnScope n__law_pen ["_law_cell_here"] (defScope s__law_pen) := ⟨rfl, rfl, rfl, by decide +kernel, rfl, by decide +kernel, by decide +kernel⟩
theorem body__law_pen (T : Tx K mg) {f : Addr} : Body P w K mg base n__law_pen 0 "_law_pen" s__law_pen f b__law_pen := fun cdv A outer s H E cd hr =>
  (dss_one (ds_retL (da_cons (de_var 0) (da_cons (de_callTy c_int T.b_int bt_int (da_cons (de_cmp o_ge (de_var 0) (de_bin o_pow de_int de_int)) da_nil)) da_nil))))
theorem ok__law_pen (T : Tx K mg) {f : Addr} {fd : FuncData} (F : FunD K "_law_pen" "_law_pen" (defArgs s__law_pen) (defBody s__law_pen) (defScope s__law_pen) [] [] f fd) : FnG P w K mg base (L2.CX P w) 1 f fd ["_law_cell_here"] (spL K mg m__law_pen) :=
  fnL F sc__law_pen (body__law_pen T)
theorem is__law_pen (T : Tx K mg) {f : Addr} {fd : FuncData} (F : FunD K "_law_pen" "_law_pen" (defArgs s__law_pen) (defBody s__law_pen) (defScope s__law_pen) [] [] f fd) (hm : mg "_law_pen" = some (.ref f)) : FnIs P w K mg base "_law_pen" 1 (spL K mg m__law_pen) :=
  fn_is (ps := ["_law_cell_here"]) F hm (fun _ _ _ _ _ _ us hl => match us, hl with | [_], _ => rfl) (ok__law_pen T F)
abbrev n__law_draw : List Str := ["_law_pen_here", "_law_many", "_law_digit"]
theorem sc__law_draw : FnScope n__law_draw ["_law_pen_here", "_law_many"] (defScope s__law_draw) := ⟨rfl, rfl, rfl, by decide +kernel, rfl, by decide +kernel, by decide +kernel⟩
theorem body__law_draw (T : Tx K mg) {f : Addr} : Body P w K mg base n__law_draw 0 "_law_draw" s__law_draw f b__law_draw := fun cdv A outer s H E cd hr =>
  (dss_cons (ds_if (dt_cmp (o_eq hr.units) (de_peek (i := 0) de_int) de_int) (dss_cons (ds_set (i := 2) sc__law_draw.nd (de_bin o_mod (de_peek (i := 0) de_int) (de_var 1)))
      (dss_cons (ds_put (i := 0) (de_bin o_div (de_peek (i := 0) de_int) (de_var 1)) de_int)
      (dss_one (ds_ret (de_var 2))))) dss_nil)
      (dss_cons (ds_put (i := 0) (de_bin o_mod (de_bin o_add (de_bin o_mulA (de_bin o_mod (de_peek (i := 0) de_int) de_int) de_int) de_int) de_int) de_int)
      (dss_one (ds_ret (de_bin o_mod (de_bin o_div (de_bin o_mod (de_bin o_add (de_bin o_mulA (de_peek (i := 0) de_int) (de_peek (i := 0) de_int)) (de_bin o_mulA de_int (de_peek (i := 0) de_int))) de_int) de_int) (de_var 1))))))
theorem ok__law_draw (T : Tx K mg) {f : Addr} {fd : FuncData} (F : FunD K "_law_draw" "_law_draw" (defArgs s__law_draw) (defBody s__law_draw) (defScope s__law_draw) [] [] f fd) : FnG P w K mg base (L2.CX P w) 1 f fd ["_law_pen_here", "_law_many"] (spP K m__law_draw) :=
  fnP F sc__law_draw rfl (body__law_draw T)
theorem is__law_draw (T : Tx K mg) {f : Addr} {fd : FuncData} (F : FunD K "_law_draw" "_law_draw" (defArgs s__law_draw) (defBody s__law_draw) (defScope s__law_draw) [] [] f fd) (hm : mg "_law_draw" = some (.ref f)) : FnIs P w K mg base "_law_draw" 1 (spP K m__law_draw) :=
  fn_is (ps := ["_law_pen_here", "_law_many"]) F hm (fun _ _ _ _ _ _ us hl => match us, hl with | [_, _], _ => rfl) (ok__law_draw T F)
abbrev n__law_pick : List Str := ["_law_pen_here", "_law_things"]
theorem sc__law_pick : FnScope n__law_pick ["_law_pen_here", "_law_things"] (defScope s__law_pick) := ⟨rfl, rfl, rfl, by decide +kernel, rfl, by decide +kernel, by decide +kernel⟩
theorem body__law_pick (T : Tx K mg) (h__law_draw : FnIs P w K mg base "_law_draw" 1 (spP K m__law_draw)) {f : Addr} : Body P w K mg base n__law_pick 1 "_law_pick" s__law_pick f b__law_pick := fun cdv A outer s H E cd hr =>
  (dss_one (ds_ret (de_ix i_seq (de_var 1) (de_callP (i := 0) h__law_draw (hr.mono (by decide)) cx_def (da_cons (de_callB c_len T.b_len bt_len (da_cons (de_var 1) da_nil)) da_nil)))))
theorem ok__law_pick (T : Tx K mg) (h__law_draw : FnIs P w K mg base "_law_draw" 1 (spP K m__law_draw)) {f : Addr} {fd : FuncData} (F : FunD K "_law_pick" "_law_pick" (defArgs s__law_pick) (defBody s__law_pick) (defScope s__law_pick) [] [] f fd) : FnG P w K mg base (L2.CX P w) 2 f fd ["_law_pen_here", "_law_things"] (spP K m__law_pick) :=
  fnP F sc__law_pick rfl (body__law_pick T h__law_draw)
theorem is__law_pick (T : Tx K mg) (h__law_draw : FnIs P w K mg base "_law_draw" 1 (spP K m__law_draw)) {f : Addr} {fd : FuncData} (F : FunD K "_law_pick" "_law_pick" (defArgs s__law_pick) (defBody s__law_pick) (defScope s__law_pick) [] [] f fd) (hm : mg "_law_pick" = some (.ref f)) : FnIs P w K mg base "_law_pick" 2 (spP K m__law_pick) :=
  fn_is (ps := ["_law_pen_here", "_law_things"]) F hm (fun _ _ _ _ _ _ us hl => match us, hl with | [_, _], _ => rfl) (ok__law_pick T h__law_draw F)
abbrev n__law_kinds : List Str := ["_law_pen_here", "_law_rows", "_law_name", "_law_fields", "_law_field"]
theorem sc__law_kinds : FnScope n__law_kinds ["_law_pen_here"] (defScope s__law_kinds) := ⟨rfl, rfl, rfl, by decide +kernel, rfl, by decide +kernel, by decide +kernel⟩
theorem body__law_kinds (T : Tx K mg) (h__law_draw : FnIs P w K mg base "_law_draw" 1 (spP K m__law_draw)) {f : Addr} : Body P w K mg base n__law_kinds 1 "_law_kinds" s__law_kinds f b__law_kinds := fun cdv A outer s H E cd hr =>
  (dss_cons (ds_setL (i := 1) sc__law_kinds.nd da_nil)
      (dss_cons (ds_for cx_def rfl (di_any (de_sl (de_lst (da_cons de_str (da_cons de_str (da_cons de_str (da_cons de_str da_nil))))) do_none (do_some (de_bin o_add de_int (de_callP (i := 0) h__law_draw (hr.mono (by decide)) cx_def (da_cons de_int da_nil)))))) (dg_name (i := 2) sc__law_kinds.nd) (dss_cons (ds_set (i := 3) sc__law_kinds.nd (de_sl (de_lst (da_cons de_str (da_cons de_str (da_cons de_str (da_cons de_str (da_cons de_str da_nil)))))) do_none (do_some (de_bin o_add de_int (de_callP (i := 0) h__law_draw (hr.mono (by decide)) cx_def (da_cons de_int da_nil))))))
      (dss_one (ds_app (i := 1) (de_tup (da_cons (de_var 2) (da_cons (de_callTy c_tuple T.b_tuple bt_tuple (da_cons (de_lc (own := [("_law_field", 4)]) rfl sc__law_kinds.nd (di_any (de_var 3)) (blkOk_by (own := [("_law_field", 4)]) (N := n__law_kinds) (sc := defScope s__law_kinds) (by decide +kernel)) (fun _ _ _ _ _ => (dg_name (i := 4) sc__law_kinds.nd)) (fun _ _ _ _ _ => dts_nil) (fun _ _ _ _ _ => (de_tup (da_cons (de_var 4) (da_cons (de_ix i_seq (de_lst (da_cons de_str (da_cons de_str da_nil))) (de_callP (i := 0) h__law_draw (hr.mono (by decide)) cx_blk (da_cons de_int da_nil))) da_nil)))) (by decide)) da_nil)) da_nil)))))))
      (dss_one (ds_ret (de_callTy c_tuple T.b_tuple bt_tuple (da_cons (de_var 1) da_nil))))))
theorem ok__law_kinds (T : Tx K mg) (h__law_draw : FnIs P w K mg base "_law_draw" 1 (spP K m__law_draw)) {f : Addr} {fd : FuncData} (F : FunD K "_law_kinds" "_law_kinds" (defArgs s__law_kinds) (defBody s__law_kinds) (defScope s__law_kinds) [] [] f fd) : FnG P w K mg base (L2.CX P w) 2 f fd ["_law_pen_here"] (spP K m__law_kinds) :=
  fnP F sc__law_kinds rfl (body__law_kinds T h__law_draw)
theorem is__law_kinds (T : Tx K mg) (h__law_draw : FnIs P w K mg base "_law_draw" 1 (spP K m__law_draw)) {f : Addr} {fd : FuncData} (F : FunD K "_law_kinds" "_law_kinds" (defArgs s__law_kinds) (defBody s__law_kinds) (defScope s__law_kinds) [] [] f fd) (hm : mg "_law_kinds" = some (.ref f)) : FnIs P w K mg base "_law_kinds" 2 (spP K m__law_kinds) :=
  fn_is (ps := ["_law_pen_here"]) F hm (fun _ _ _ _ _ _ us hl => match us, hl with | [_], _ => rfl) (ok__law_kinds T h__law_draw F)
abbrev n__law_rules : List Str := ["_law_pen_here", "_law_kinds_here", "_law_rows", "_law_turn", "_law_name", "_law_fields", "_law_field", "_law_who"]
theorem sc__law_rules : FnScope n__law_rules ["_law_pen_here", "_law_kinds_here"] (defScope s__law_rules) := ⟨rfl, rfl, rfl, by decide +kernel, rfl, by decide +kernel, by decide +kernel⟩
theorem body__law_rules (T : Tx K mg) (h__law_draw : FnIs P w K mg base "_law_draw" 1 (spP K m__law_draw)) (h__law_pick : FnIs P w K mg base "_law_pick" 2 (spP K m__law_pick)) {f : Addr} : Body P w K mg base n__law_rules 2 "_law_rules" s__law_rules f b__law_rules := fun cdv A outer s H E cd hr =>
  (dss_cons (ds_setL (i := 2) sc__law_rules.nd da_nil)
      (dss_cons (ds_for cx_def rfl (di_range T.b_range (da_cons (de_callP (i := 0) h__law_draw (hr.mono (by decide)) cx_def (da_cons de_int da_nil)) da_nil)) (dg_name (i := 3) sc__law_rules.nd) (dss_cons (ds_asg (de_callP (i := 0) h__law_pick (hr.mono (by decide)) cx_def (da_cons (de_var 1) da_nil)) (dg_tup rfl (dgs_cons (dg_name (i := 4) sc__law_rules.nd) (dgs_cons (dg_name (i := 5) sc__law_rules.nd) dgs_nil))))
      (dss_cons (ds_set (i := 6) sc__law_rules.nd (de_callP (i := 0) h__law_pick (hr.mono (by decide)) cx_def (da_cons (de_lst (da_cons de_str (da_cons de_str (da_cons (de_ix i_seq (de_ix i_seq (de_var 5) (de_callP (i := 0) h__law_draw (hr.mono (by decide)) cx_def (da_cons (de_callB c_len T.b_len bt_len (da_cons (de_var 5) da_nil)) da_nil))) de_int) (da_cons de_str da_nil))))) da_nil)))
      (dss_cons (ds_set (i := 7) sc__law_rules.nd (de_callP (i := 0) h__law_pick (hr.mono (by decide)) cx_def (da_cons (de_lst (da_cons de_str (da_cons de_str (da_cons de_str (da_cons de_str (da_cons (de_tup (da_cons de_str (da_cons de_str da_nil))) (da_cons (de_tup (da_cons de_str (da_cons de_str da_nil))) da_nil))))))) da_nil)))
      (dss_one (ds_app (i := 2) (de_tup (da_cons (de_var 7) (da_cons (de_callP (i := 0) h__law_pick (hr.mono (by decide)) cx_def (da_cons (de_lst (da_cons de_str (da_cons de_str (da_cons de_str (da_cons de_str (da_cons de_str (da_cons de_str da_nil))))))) da_nil)) (da_cons (de_var 4) (da_cons (de_var 6) da_nil)))))))))))
      (dss_one (ds_ret (de_callTy c_tuple T.b_tuple bt_tuple (da_cons (de_var 2) da_nil))))))
theorem ok__law_rules (T : Tx K mg) (h__law_draw : FnIs P w K mg base "_law_draw" 1 (spP K m__law_draw)) (h__law_pick : FnIs P w K mg base "_law_pick" 2 (spP K m__law_pick)) {f : Addr} {fd : FuncData} (F : FunD K "_law_rules" "_law_rules" (defArgs s__law_rules) (defBody s__law_rules) (defScope s__law_rules) [] [] f fd) : FnG P w K mg base (L2.CX P w) 3 f fd ["_law_pen_here", "_law_kinds_here"] (spP K m__law_rules) :=
  fnP F sc__law_rules rfl (body__law_rules T h__law_draw h__law_pick)
theorem is__law_rules (T : Tx K mg) (h__law_draw : FnIs P w K mg base "_law_draw" 1 (spP K m__law_draw)) (h__law_pick : FnIs P w K mg base "_law_pick" 2 (spP K m__law_pick)) {f : Addr} {fd : FuncData} (F : FunD K "_law_rules" "_law_rules" (defArgs s__law_rules) (defBody s__law_rules) (defScope s__law_rules) [] [] f fd) (hm : mg "_law_rules" = some (.ref f)) : FnIs P w K mg base "_law_rules" 3 (spP K m__law_rules) :=
  fn_is (ps := ["_law_pen_here", "_law_kinds_here"]) F hm (fun _ _ _ _ _ _ us hl => match us, hl with | [_, _], _ => rfl) (ok__law_rules T h__law_draw h__law_pick F)
abbrev n__law_let : List Str := ["_law_rules_here", "_law_asker", "_law_deed", "_law_kind", "_law_field", "_law_owner", "_law_place", "_law_rule"]
theorem sc__law_let : FnScope n__law_let ["_law_rules_here", "_law_asker", "_law_deed", "_law_kind", "_law_field", "_law_owner"] (defScope s__law_let) := ⟨rfl, rfl, rfl, by decide +kernel, rfl, by decide +kernel, by decide +kernel⟩
theorem body__law_let (T : Tx K mg) {f : Addr} : Body P w K mg base n__law_let 0 "_law_let" s__law_let f b__law_let := fun cdv A outer s H E cd hr =>
  (dss_cons (ds_for cx_def rfl (di_enum T.b_enumerate (da_cons (de_var 0) da_nil)) (dg_tup rfl (dgs_cons (dg_name (i := 6) sc__law_let.nd) (dgs_cons (dg_name (i := 7) sc__law_let.nd) dgs_nil))) (dss_one (ds_if (DW.dt (dw_and (dt_cmp (o_eq hr.units) (de_ix i_seq (de_var 7) de_int) (de_var 2)) (dw_and (dt_cmp (o_eq hr.units) (de_ix i_seq (de_var 7) de_int) (de_var 3)) (dw_and1 (dt_cmp (o_in (hu65 hr)) (de_ix i_seq (de_var 7) de_int) (de_lst (da_cons de_str (da_cons (de_var 4) da_nil)))))))) (dss_cons (ds_if (DW.dt (dw_or (dt_cmp (o_eq hr.units) (de_ix i_seq (de_var 7) de_int) de_str) (dw_or1 (DW.dt (dw_and (dt_cmp o_isnot (de_var 1) de_none) (dw_and1 (dt_cmp (o_eq hr.units) (de_ix i_seq (de_var 7) de_int) de_str))))))) (dss_one (ds_ret (de_var 6))) dss_nil)
      (dss_cons (ds_if (DW.dt (dw_and (dt_cmp o_isnot (de_var 1) de_none) (dw_and (dt_cmp (o_eq hr.units) (de_ix i_seq (de_var 7) de_int) de_str) (dw_and1 (dt_cmp (o_eq hr.units) (de_ix i_seq (de_var 1) de_int) (de_var 5)))))) (dss_one (ds_ret (de_var 6))) dss_nil)
      (dss_one (ds_if (DW.dt (dw_and (dt_cmp o_isnot (de_var 1) de_none) (dw_and (dt_val (de_isi ty_tuple bt_tuple T.b_isinstance T.b_tuple (de_ix i_seq (de_var 7) de_int))) (dw_and1 (dt_cmp (o_in (hu65 hr)) (de_ix i_seq (de_ix i_seq (de_var 7) de_int) de_int) (de_ix i_seq (de_var 1) de_int)))))) (dss_one (ds_ret (de_var 6))) dss_nil)))) dss_nil)))
      (dss_one (ds_ret de_none)))
theorem ok__law_let (T : Tx K mg) {f : Addr} {fd : FuncData} (F : FunD K "_law_let" "_law_let" (defArgs s__law_let) (defBody s__law_let) (defScope s__law_let) [] [] f fd) : FnG P w K mg base (L2.CX P w) 1 f fd ["_law_rules_here", "_law_asker", "_law_deed", "_law_kind", "_law_field", "_law_owner"] (spA K mg m__law_let) :=
  fnA F sc__law_let (body__law_let T)
theorem is__law_let (T : Tx K mg) {f : Addr} {fd : FuncData} (F : FunD K "_law_let" "_law_let" (defArgs s__law_let) (defBody s__law_let) (defScope s__law_let) [] [] f fd) (hm : mg "_law_let" = some (.ref f)) : FnIs P w K mg base "_law_let" 1 (spA K mg m__law_let) :=
  fn_is (ps := ["_law_rules_here", "_law_asker", "_law_deed", "_law_kind", "_law_field", "_law_owner"]) F hm (fun _ _ _ _ _ _ us hl => match us, hl with | [_, _, _, _, _, _], _ => rfl) (ok__law_let T F)
abbrev n__law_people : List Str := ["_law_pen_here", "_law_some", "_law_one"]
theorem sc__law_people : FnScope n__law_people ["_law_pen_here"] (defScope s__law_people) := ⟨rfl, rfl, rfl, by decide +kernel, rfl, by decide +kernel, by decide +kernel⟩
theorem body__law_people (T : Tx K mg) (h__law_draw : FnIs P w K mg base "_law_draw" 1 (spP K m__law_draw)) {f : Addr} : Body P w K mg base n__law_people 1 "_law_people" s__law_people f b__law_people := fun cdv A outer s H E cd hr =>
  (dss_cons (ds_set (i := 1) sc__law_people.nd (de_lst (da_cons (de_tup (da_cons de_str (da_cons de_str (da_cons (de_tup da_nil) da_nil)))) (da_cons (de_tup (da_cons de_str (da_cons de_str (da_cons (de_tup (da_cons de_str da_nil)) da_nil)))) (da_cons (de_tup (da_cons de_str (da_cons de_str (da_cons (de_tup (da_cons de_str (da_cons de_str da_nil))) da_nil)))) (da_cons (de_tup (da_cons de_str (da_cons de_str (da_cons (de_tup (da_cons de_str da_nil)) da_nil)))) da_nil))))))
      (dss_one (ds_ret (de_callTy c_tuple T.b_tuple bt_tuple (da_cons (de_lc (own := [("_law_one", 2)]) rfl sc__law_people.nd (di_any (de_var 1)) (blkOk_by (own := [("_law_one", 2)]) (N := n__law_people) (sc := defScope s__law_people) (by decide +kernel)) (fun _ _ _ _ _ => (dg_name (i := 2) sc__law_people.nd)) (fun _ _ _ _ _ => (dts_one (dt_cmp (o_eq hr.units) (de_callP (i := 0) h__law_draw (hr.mono (by decide)) cx_blk (da_cons de_int da_nil)) de_int))) (fun _ _ _ _ _ => (de_var 2)) (by decide)) da_nil)))))
theorem ok__law_people (T : Tx K mg) (h__law_draw : FnIs P w K mg base "_law_draw" 1 (spP K m__law_draw)) {f : Addr} {fd : FuncData} (F : FunD K "_law_people" "_law_people" (defArgs s__law_people) (defBody s__law_people) (defScope s__law_people) [] [] f fd) : FnG P w K mg base (L2.CX P w) 2 f fd ["_law_pen_here"] (spP K m__law_people) :=
  fnP F sc__law_people rfl (body__law_people T h__law_draw)
theorem is__law_people (T : Tx K mg) (h__law_draw : FnIs P w K mg base "_law_draw" 1 (spP K m__law_draw)) {f : Addr} {fd : FuncData} (F : FunD K "_law_people" "_law_people" (defArgs s__law_people) (defBody s__law_people) (defScope s__law_people) [] [] f fd) (hm : mg "_law_people" = some (.ref f)) : FnIs P w K mg base "_law_people" 2 (spP K m__law_people) :=
  fn_is (ps := ["_law_pen_here"]) F hm (fun _ _ _ _ _ _ us hl => match us, hl with | [_], _ => rfl) (ok__law_people T h__law_draw F)
abbrev n__law_told : List Str := ["_law_rows", "_law_people_here", "_law_rights", "_law_who", "_law_whose", "_law_deed", "_law_kind", "_law_part", "_law_field", "_law_name", "_law_word", "_law_roles", "_law_row"]
theorem sc__law_told : FnScope n__law_told ["_law_rows", "_law_people_here"] (defScope s__law_told) := ⟨rfl, rfl, rfl, by decide +kernel, rfl, by decide +kernel, by decide +kernel⟩
theorem body__law_told (T : Tx K mg) (h__law_let : FnIs P w K mg base "_law_let" 1 (spA K mg m__law_let)) {f : Addr} : Body P w K mg base n__law_told 1 "_law_told" s__law_told f b__law_told := fun cdv A outer s H E cd hr =>
  (dss_cons (ds_setL (i := 2) sc__law_told.nd da_nil)
      (dss_cons (ds_for cx_def rfl (di_any (de_bin o_add (de_lst (da_cons de_none da_nil)) (de_lc (own := [("_law_name", 9), ("_law_word", 10), ("_law_roles", 11)]) rfl sc__law_told.nd (di_any (de_var 1)) (blkOk_by (own := [("_law_name", 9), ("_law_word", 10), ("_law_roles", 11)]) (N := n__law_told) (sc := defScope s__law_told) (by decide +kernel)) (fun _ _ _ _ _ => (dg_tup rfl (dgs_cons (dg_name (i := 9) sc__law_told.nd) (dgs_cons (dg_name (i := 10) sc__law_told.nd) (dgs_cons (dg_name (i := 11) sc__law_told.nd) dgs_nil))))) (fun _ _ _ _ _ => dts_nil) (fun _ _ _ _ _ => (de_tup (da_cons (de_var 9) (da_cons (de_var 11) da_nil)))) (by decide)))) (dg_name (i := 3) sc__law_told.nd) (dss_one (ds_for cx_def rfl (di_any (de_lst (da_cons de_str (da_cons de_str (da_cons de_str (da_cons de_str (da_cons de_str (da_cons de_str da_nil)))))))) (dg_name (i := 4) sc__law_told.nd) (dss_one (ds_for cx_def rfl (di_any (de_sortSetK rfl hr.units T.b_sorted T.b_set (de_lc (own := [("_law_row", 12)]) rfl sc__law_told.nd (di_any (de_var 0)) (blkOk_by (own := [("_law_row", 12)]) (N := n__law_told) (sc := defScope s__law_told) (by decide +kernel)) (fun _ _ _ _ _ => (dg_name (i := 12) sc__law_told.nd)) (fun _ _ _ _ _ => dts_nil) (fun _ _ _ _ _ => (de_sl (de_var 12) (do_some de_int) do_none)) (by decide)))) (dg_tup rfl (dgs_cons (dg_name (i := 5) sc__law_told.nd) (dgs_cons (dg_name (i := 6) sc__law_told.nd) (dgs_cons (dg_name (i := 7) sc__law_told.nd) dgs_nil)))) (dss_one (ds_for cx_def rfl (di_any (de_sortSet rfl hr.units T.b_sorted T.b_set (de_lst (da_cons (de_var 7) (da_cons de_str (da_cons de_str (da_cons de_str da_nil))))))) (dg_name (i := 8) sc__law_told.nd) (dss_one (ds_app (i := 2) (de_callA h__law_let (hr.mono (by decide)) cx_def (da_cons (de_var 0) (da_cons (de_var 3) (da_cons (de_var 5) (da_cons (de_var 6) (da_cons (de_var 8) (da_cons (de_var 4) da_nil))))))))))))))))
      (dss_one (ds_ret (de_var 2)))))
theorem ok__law_told (T : Tx K mg) (h__law_let : FnIs P w K mg base "_law_let" 1 (spA K mg m__law_let)) {f : Addr} {fd : FuncData} (F : FunD K "_law_told" "_law_told" (defArgs s__law_told) (defBody s__law_told) (defScope s__law_told) [] [] f fd) : FnG P w K mg base (L2.CX P w) 2 f fd ["_law_rows", "_law_people_here"] (spA K mg m__law_told) :=
  fnA F sc__law_told (body__law_told T h__law_let)
theorem is__law_told (T : Tx K mg) (h__law_let : FnIs P w K mg base "_law_let" 1 (spA K mg m__law_let)) {f : Addr} {fd : FuncData} (F : FunD K "_law_told" "_law_told" (defArgs s__law_told) (defBody s__law_told) (defScope s__law_told) [] [] f fd) (hm : mg "_law_told" = some (.ref f)) : FnIs P w K mg base "_law_told" 2 (spA K mg m__law_told) :=
  fn_is (ps := ["_law_rows", "_law_people_here"]) F hm (fun _ _ _ _ _ _ us hl => match us, hl with | [_, _], _ => rfl) (ok__law_told T h__law_let F)
abbrev n_law : List Str := ["_law_script", "_law_first", "_law_both", "_law_cell_here", "_law_pen_here", "_law_turn", "_law_rows", "_law_people_here", "_law_rights", "_law_due", "_law_place"]
theorem sc_law : FnScope n_law ["_law_script"] (defScope s_law) := ⟨rfl, rfl, rfl, by decide +kernel, rfl, by decide +kernel, by decide +kernel⟩
theorem body_law (T : Tx K mg) (h_nobody : FnIs P w K mg base "nobody" 7 (spA K mg m_nobody)) (h__law_pen : FnIs P w K mg base "_law_pen" 1 (spL K mg m__law_pen)) (h__law_cell : FnIs P w K mg base "_law_cell" 1 (spC K mg m__law_cell)) (h__law_told : FnIs P w K mg base "_law_told" 2 (spA K mg m__law_told)) (h__law_rules : FnIs P w K mg base "_law_rules" 3 (spP K m__law_rules)) (h__law_people : FnIs P w K mg base "_law_people" 2 (spP K m__law_people)) (h__law_kinds : FnIs P w K mg base "_law_kinds" 2 (spP K m__law_kinds)) {f : Addr} : Body P w K mg base n_law 7 "law" s_law f b_law := fun cdv A outer s H E cd hr =>
  (dss_cons (ds_set (i := 1) sc_law.nd (de_tup (da_cons (de_tup (da_cons de_str (da_cons de_str (da_cons de_str (da_cons de_str da_nil))))) (da_cons (de_tup (da_cons de_str (da_cons de_str (da_cons de_str (da_cons de_str da_nil))))) (da_cons (de_tup (da_cons de_str (da_cons de_str (da_cons de_str (da_cons de_str da_nil))))) da_nil)))))
      (dss_cons (ds_if (DW.dt (dw_or (dt_cmp (o_ne hr.units) (de_callA h_nobody (hr.mono (by decide)) cx_def (da_cons (de_var 1) (da_cons (de_tup da_nil) da_nil))) (de_tup (da_cons de_int (da_cons de_int da_nil)))) (dw_or1 (dt_cmp (o_ne hr.units) (de_callA h_nobody (hr.mono (by decide)) cx_def (da_cons (de_var 1) (da_cons (de_tup (da_cons (de_tup (da_cons de_str (da_cons de_str (da_cons (de_tup da_nil) da_nil)))) da_nil)) da_nil))) (de_tup (da_cons de_int da_nil)))))) (dss_one (ds_ret de_bool)) dss_nil)
      (dss_cons (ds_set (i := 2) sc_law.nd (de_tup (da_cons (de_tup (da_cons (de_tup (da_cons de_str (da_cons de_str da_nil))) (da_cons de_str (da_cons de_str (da_cons de_str da_nil))))) (da_cons (de_tup (da_cons (de_tup (da_cons de_str (da_cons de_str da_nil))) (da_cons de_str (da_cons de_str (da_cons de_str da_nil))))) (da_cons (de_tup (da_cons de_str (da_cons de_str (da_cons de_str (da_cons de_str da_nil))))) da_nil)))))
      (dss_cons (ds_if (dt_cmp (o_ne hr.units) (de_callA h_nobody (hr.mono (by decide)) cx_def (da_cons (de_var 2) (da_cons (de_tup (da_cons (de_tup (da_cons de_str (da_cons de_str (da_cons (de_tup (da_cons de_str da_nil)) da_nil)))) (da_cons (de_tup (da_cons de_str (da_cons de_str (da_cons (de_tup (da_cons de_str da_nil)) da_nil)))) da_nil))) da_nil))) (de_tup (da_cons de_int da_nil))) (dss_one (ds_ret de_bool)) dss_nil)
      (dss_cons (ds_for cx_def rfl (di_any (de_bin o_add (de_lst (da_cons (de_callC (i := 0) h__law_cell (hr.mono (by decide)) cx_def (da_cons de_int da_nil)) da_nil)) (de_slC (i := 0) (do_some de_int) (do_some de_int)))) (dg_name (i := 3) sc_law.nd) (dss_cons (ds_setCallL (i := 4) sc_law.nd h__law_pen (hr.mono (by decide)) cx_def (da_cons (de_var 3) da_nil))
      (dss_one (ds_for cx_def rfl (di_range T.b_range (da_cons de_int da_nil)) (dg_name (i := 5) sc_law.nd) (dss_cons (ds_par (i := 6) (j := 7) rfl sc_law.nd (da_cons (de_callP (i := 4) h__law_rules (hr.mono (by decide)) cx_def (da_cons (de_callP (i := 4) h__law_kinds (hr.mono (by decide)) cx_def da_nil) da_nil)) (da_cons (de_callP (i := 4) h__law_people (hr.mono (by decide)) cx_def da_nil) da_nil)))
      (dss_cons (ds_set (i := 8) sc_law.nd (de_callA h__law_told (hr.mono (by decide)) cx_def (da_cons (de_var 6) (da_cons (de_var 7) da_nil))))
      (dss_cons (ds_set (i := 9) sc_law.nd (de_callTy c_tuple T.b_tuple bt_tuple (da_cons (de_lc (own := [("_law_place", 10)]) rfl sc_law.nd (di_range T.b_range (da_cons (de_callB c_len T.b_len bt_len (da_cons (de_var 6) da_nil)) da_nil)) (blkOk_by (own := [("_law_place", 10)]) (N := n_law) (sc := defScope s_law) (by decide +kernel)) (fun _ _ _ _ _ => (dg_name (i := 10) sc_law.nd)) (fun _ _ _ _ _ => (dts_one (dt_cmp (o_notin (hu65 hr)) (de_var 10) (de_var 8)))) (fun _ _ _ _ _ => (de_var 10)) (by decide)) da_nil)))
      (dss_one (ds_if (dt_cmp (o_ne hr.units) (de_callB (c_reprA hr.gd hr.units) T.b_repr bt_repr (da_cons (de_callA h_nobody (hr.mono (by decide)) cx_def (da_cons (de_var 6) (da_cons (de_var 7) da_nil))) da_nil)) (de_callB (c_reprA hr.gd hr.units) T.b_repr bt_repr (da_cons (de_var 9) da_nil))) (dss_one (ds_ret de_bool)) dss_nil)))))))))
      (dss_one (ds_ret de_bool)))))))
theorem ok_law (T : Tx K mg) (h_nobody : FnIs P w K mg base "nobody" 7 (spA K mg m_nobody)) (h__law_pen : FnIs P w K mg base "_law_pen" 1 (spL K mg m__law_pen)) (h__law_cell : FnIs P w K mg base "_law_cell" 1 (spC K mg m__law_cell)) (h__law_told : FnIs P w K mg base "_law_told" 2 (spA K mg m__law_told)) (h__law_rules : FnIs P w K mg base "_law_rules" 3 (spP K m__law_rules)) (h__law_people : FnIs P w K mg base "_law_people" 2 (spP K m__law_people)) (h__law_kinds : FnIs P w K mg base "_law_kinds" 2 (spP K m__law_kinds)) {f : Addr} {fd : FuncData} (F : FunD K "law" "law" (defArgs s_law) (defBody s_law) (defScope s_law) [] [] f fd) : FnG P w K mg base (L2.CX P w) 8 f fd ["_law_script"] (spC K mg m_law) :=
  fnC F sc_law rfl (body_law T h_nobody h__law_pen h__law_cell h__law_told h__law_rules h__law_people h__law_kinds)
theorem is_law (T : Tx K mg) (h_nobody : FnIs P w K mg base "nobody" 7 (spA K mg m_nobody)) (h__law_pen : FnIs P w K mg base "_law_pen" 1 (spL K mg m__law_pen)) (h__law_cell : FnIs P w K mg base "_law_cell" 1 (spC K mg m__law_cell)) (h__law_told : FnIs P w K mg base "_law_told" 2 (spA K mg m__law_told)) (h__law_rules : FnIs P w K mg base "_law_rules" 3 (spP K m__law_rules)) (h__law_people : FnIs P w K mg base "_law_people" 2 (spP K m__law_people)) (h__law_kinds : FnIs P w K mg base "_law_kinds" 2 (spP K m__law_kinds)) {f : Addr} {fd : FuncData} (F : FunD K "law" "law" (defArgs s_law) (defBody s_law) (defScope s_law) [] [] f fd) (hm : mg "law" = some (.ref f)) : FnIs P w K mg base "law" 8 (spC K mg m_law) :=
  fn_is (ps := ["_law_script"]) F hm (fun _ _ _ _ _ _ us hl => match us, hl with | [_], _ => rfl) (ok_law T h_nobody h__law_pen h__law_cell h__law_told h__law_rules h__law_people h__law_kinds F)
end
end Lw
namespace Lw
open PySem L2 DL
def exBL (K : PySem.W.Frag) : Bool := (DL.noD K "DEEDS" && He.tupB K "DEEDS" [(.str "see"), (.str "add"), (.str "change"), (.str "remove")]) && DL.lamB K lamNames && DL.lamIn K viewNames
theorem exBL_of {K : PySem.W.Frag} (h : exB K = true) : exBL K = true := h
theorem facts {P : Program} {w : World} {K : PySem.W.Frag} {h : Heap} {mg : Str → Option Value} {f : Addr} (X : K.In h) (G : h.Ns mainGlobals mg) (hfa : mg ("law" : Str) = some (.ref f)) (c : He.SaysD fa fn K) (ex : exB K = true) :
    ∃ fd : FuncData, (∀ (s : Shared) (v : Value), BindsTo s fd ⟨[v], []⟩ [("_law_script", v)]) ∧ ∀ base : Heap, K.In base → base.Ns mainGlobals mg → TbB K mg base → FnG P w K mg base (L2.CX P w) 8 f fd ["_law_script"] (spC K mg m_law) := by
  replace ex := exBL_of ex
  simp only [exBL, Bool.and_eq_true] at ex
  obtain ⟨⟨hDEEDS, hLb⟩, hLi⟩ := ex
  have T : Tx K mg := ⟨He.free_ok X G (c.fact 28 (f := .free "all") rfl),
    He.free_ok X G (c.fact 29 (f := .free "any") rfl),
    He.free_ok X G (c.fact 30 (f := .free "enumerate") rfl),
    He.free_ok X G (c.fact 31 (f := .free "int") rfl),
    He.free_ok X G (c.fact 32 (f := .free "isinstance") rfl),
    He.free_ok X G (c.fact 33 (f := .free "len") rfl),
    He.free_ok X G (c.fact 34 (f := .free "range") rfl),
    He.free_ok X G (c.fact 35 (f := .free "repr") rfl),
    He.free_ok X G (c.fact 36 (f := .free "set") rfl),
    He.free_ok X G (c.fact 37 (f := .free "sorted") rfl),
    He.free_ok X G (c.fact 38 (f := .free "str") rfl),
    He.free_ok X G (c.fact 39 (f := .free "tuple") rfl),
    He.free_ok X G (c.fact 40 (f := .free "zip") rfl),
    glob_str (He.str_ok X G (c.fact 41 (f := .str "ALL" "all") rfl)),
    glob_tup (He.glo_ok X G (c.fact 42 (f := .glo "DEEDS") rfl)) hDEEDS.1 hDEEDS.2 (fun S => (.cons (.str _ (by decide +kernel)) (.cons (.str _ (by decide +kernel)) (.cons (.str _ (by decide +kernel)) (.cons (.str _ (by decide +kernel)) .nil))))),
    glob_str (He.str_ok X G (c.fact 43 (f := .str "FIGURES" "0123456789") rfl)),
    glob_str (He.str_ok X G (c.fact 44 (f := .str "KNOWN" "known") rfl)),
    glob_str (He.str_ok X G (c.fact 45 (f := .str "LETTERS" "abcdefghijklmnopqrstuvwxyz") rfl)),
    glob_int (He.int_ok X G (c.fact 46 (f := .int "MOST_PEOPLE" 6) rfl)),
    glob_int (He.int_ok X G (c.fact 47 (f := .int "MOST_RULES" 12) rfl)),
    glob_int (He.int_ok X G (c.fact 48 (f := .int "MOST_SIGNS" 8) rfl)),
    glob_str (He.str_ok X G (c.fact 49 (f := .str "OWN" "own") rfl)),
    glob_str (He.str_ok X G (c.fact 50 (f := .str "ROLE" "role") rfl)),
    exc_cl X G (c.fact 52 (f := .exc "NoPeople") rfl) (c.fact 51 (f := .glo "NoPeople") rfl),
    exc_cl X G (c.fact 54 (f := .exc "NoRules") rfl) (c.fact 53 (f := .glo "NoRules") rfl)⟩
  obtain ⟨fd_is_made_of, F_is_made_of⟩ := c.def_ 0 (d := d_is_made_of) rfl
  have g_is_made_of := He.glo_ok X G (c.fact 0 (f := .glo "is_made_of") rfl)
  obtain ⟨fd_is_name, F_is_name⟩ := c.def_ 1 (d := d_is_name) rfl
  have g_is_name := He.glo_ok X G (c.fact 1 (f := .glo "is_name") rfl)
  obtain ⟨fd_is_word, F_is_word⟩ := c.def_ 2 (d := d_is_word) rfl
  have g_is_word := He.glo_ok X G (c.fact 2 (f := .glo "is_word") rfl)
  obtain ⟨fd_is_shaped, F_is_shaped⟩ := c.def_ 3 (d := d_is_shaped) rfl
  have g_is_shaped := He.glo_ok X G (c.fact 3 (f := .glo "is_shaped") rfl)
  obtain ⟨fd_are_unlike, F_are_unlike⟩ := c.def_ 4 (d := d_are_unlike) rfl
  have g_are_unlike := He.glo_ok X G (c.fact 4 (f := .glo "are_unlike") rfl)
  obtain ⟨fd_are_rising, F_are_rising⟩ := c.def_ 5 (d := d_are_rising) rfl
  have g_are_rising := He.glo_ok X G (c.fact 5 (f := .glo "are_rising") rfl)
  obtain ⟨fd_is_owner, F_is_owner⟩ := c.def_ 6 (d := d_is_owner) rfl
  have g_is_owner := He.glo_ok X G (c.fact 6 (f := .glo "is_owner") rfl)
  obtain ⟨fd_is_who, F_is_who⟩ := c.def_ 7 (d := d_is_who) rfl
  have g_is_who := He.glo_ok X G (c.fact 7 (f := .glo "is_who") rfl)
  obtain ⟨fd_is_rights_deed, F_is_rights_deed⟩ := c.def_ 8 (d := d_is_rights_deed) rfl
  have g_is_rights_deed := He.glo_ok X G (c.fact 8 (f := .glo "is_rights_deed") rfl)
  obtain ⟨fd_is_rule, F_is_rule⟩ := c.def_ 9 (d := d_is_rule) rfl
  have g_is_rule := He.glo_ok X G (c.fact 9 (f := .glo "is_rule") rfl)
  obtain ⟨fd_are_rules, F_are_rules⟩ := c.def_ 10 (d := d_are_rules) rfl
  have g_are_rules := He.glo_ok X G (c.fact 10 (f := .glo "are_rules") rfl)
  obtain ⟨fd_need_rules, F_need_rules⟩ := c.def_ 11 (d := d_need_rules) rfl
  have g_need_rules := He.glo_ok X G (c.fact 11 (f := .glo "need_rules") rfl)
  obtain ⟨fd_are_roles, F_are_roles⟩ := c.def_ 12 (d := d_are_roles) rfl
  have g_are_roles := He.glo_ok X G (c.fact 12 (f := .glo "are_roles") rfl)
  obtain ⟨fd_is_for, F_is_for⟩ := c.def_ 13 (d := d_is_for) rfl
  have g_is_for := He.glo_ok X G (c.fact 13 (f := .glo "is_for") rfl)
  obtain ⟨fd_let_by, F_let_by⟩ := c.def_ 14 (d := d_let_by) rfl
  have g_let_by := He.glo_ok X G (c.fact 14 (f := .glo "let_by") rfl)
  obtain ⟨fd_is_person, F_is_person⟩ := c.def_ 15 (d := d_is_person) rfl
  have g_is_person := He.glo_ok X G (c.fact 15 (f := .glo "is_person") rfl)
  obtain ⟨fd_are_people, F_are_people⟩ := c.def_ 16 (d := d_are_people) rfl
  have g_are_people := He.glo_ok X G (c.fact 16 (f := .glo "are_people") rfl)
  obtain ⟨fd_nobody, F_nobody⟩ := c.def_ 17 (d := d_nobody) rfl
  have g_nobody := He.glo_ok X G (c.fact 17 (f := .glo "nobody") rfl)
  obtain ⟨fd__law_cell, F__law_cell⟩ := c.def_ 18 (d := d__law_cell) rfl
  have g__law_cell := He.glo_ok X G (c.fact 18 (f := .glo "_law_cell") rfl)
  obtain ⟨fd__law_pen, F__law_pen⟩ := c.def_ 19 (d := d__law_pen) rfl
  have g__law_pen := He.glo_ok X G (c.fact 19 (f := .glo "_law_pen") rfl)
  obtain ⟨fd__law_draw, F__law_draw⟩ := c.def_ 20 (d := d__law_draw) rfl
  have g__law_draw := He.glo_ok X G (c.fact 20 (f := .glo "_law_draw") rfl)
  obtain ⟨fd__law_pick, F__law_pick⟩ := c.def_ 21 (d := d__law_pick) rfl
  have g__law_pick := He.glo_ok X G (c.fact 21 (f := .glo "_law_pick") rfl)
  obtain ⟨fd__law_kinds, F__law_kinds⟩ := c.def_ 22 (d := d__law_kinds) rfl
  have g__law_kinds := He.glo_ok X G (c.fact 22 (f := .glo "_law_kinds") rfl)
  obtain ⟨fd__law_rules, F__law_rules⟩ := c.def_ 23 (d := d__law_rules) rfl
  have g__law_rules := He.glo_ok X G (c.fact 23 (f := .glo "_law_rules") rfl)
  obtain ⟨fd__law_let, F__law_let⟩ := c.def_ 24 (d := d__law_let) rfl
  have g__law_let := He.glo_ok X G (c.fact 24 (f := .glo "_law_let") rfl)
  obtain ⟨fd__law_people, F__law_people⟩ := c.def_ 25 (d := d__law_people) rfl
  have g__law_people := He.glo_ok X G (c.fact 25 (f := .glo "_law_people") rfl)
  obtain ⟨fd__law_told, F__law_told⟩ := c.def_ 26 (d := d__law_told) rfl
  have g__law_told := He.glo_ok X G (c.fact 26 (f := .glo "_law_told") rfl)
  obtain ⟨fd_law, F_law⟩ := c.def_ 27 (d := d_law) rfl
  have g_law := He.glo_ok X G (c.fact 27 (f := .glo "law") rfl)
  have e := hfa.symm.trans g_law
  cases e
  have b := FunD.bindsA (ps := ["_law_script"]) F_law fun _ _ _ _ _ _ us hl => match us, hl with | [_], _ => rfl
  refine ⟨fd_law, fun s v => b s [v] rfl, fun base b1 b2 b3 => ?_⟩
  have h_HL := DL.lamOk_by b1 b2 b3 hLb
  have h_is_made_of := is_is_made_of (P := P) (w := w) (base := base) T F_is_made_of g_is_made_of
  have h_is_name := is_is_name (P := P) (w := w) (base := base) T h_is_made_of F_is_name g_is_name
  have h_is_word := is_is_word (P := P) (w := w) (base := base) T h_is_made_of F_is_word g_is_word
  have h_is_shaped := is_is_shaped (P := P) (w := w) (base := base) T F_is_shaped g_is_shaped
  have h_are_unlike := is_are_unlike (P := P) (w := w) (base := base) T F_are_unlike g_are_unlike
  have h_are_rising := is_are_rising (P := P) (w := w) (base := base) T F_are_rising g_are_rising
  have h_is_owner := is_is_owner (P := P) (w := w) (base := base) T h_is_name F_is_owner g_is_owner
  have h_is_who := is_is_who (P := P) (w := w) (base := base) T h_is_shaped h_is_name F_is_who g_is_who
  have h_is_rights_deed := is_is_rights_deed (P := P) (w := w) (base := base) T F_is_rights_deed g_is_rights_deed
  have h_is_rule := is_is_rule (P := P) (w := w) (base := base) T h_is_name h_is_owner h_is_shaped h_is_who h_is_rights_deed F_is_rule g_is_rule
  have h_are_rules := is_are_rules (P := P) (w := w) (base := base) T h_is_rule F_are_rules g_are_rules
  have h_need_rules := is_need_rules (P := P) (w := w) (base := base) T h_are_rules F_need_rules g_need_rules
  have h_are_roles := is_are_roles (P := P) (w := w) (base := base) T h_are_rising h_is_name F_are_roles g_are_roles
  have h_is_for := is_is_for (P := P) (w := w) (base := base) T F_is_for g_is_for
  have h_let_by := is_let_by (P := P) (w := w) (base := base) T h_is_for F_let_by g_let_by
  have h_is_person := is_is_person (P := P) (w := w) (base := base) T h_is_shaped h_is_name h_is_word h_are_roles F_is_person g_is_person
  have h_are_people := is_are_people (P := P) (w := w) (base := base) T h_are_unlike h_is_person F_are_people g_are_people
  have h_nobody := is_nobody (P := P) (w := w) (base := base) T h_need_rules h_are_people h_let_by F_nobody g_nobody
  have h__law_cell := is__law_cell (P := P) (w := w) (base := base) T F__law_cell g__law_cell
  have h__law_pen := is__law_pen (P := P) (w := w) (base := base) T F__law_pen g__law_pen
  have h__law_draw := is__law_draw (P := P) (w := w) (base := base) T F__law_draw g__law_draw
  have h__law_pick := is__law_pick (P := P) (w := w) (base := base) T h__law_draw F__law_pick g__law_pick
  have h__law_kinds := is__law_kinds (P := P) (w := w) (base := base) T h__law_draw F__law_kinds g__law_kinds
  have h__law_rules := is__law_rules (P := P) (w := w) (base := base) T h__law_draw h__law_pick F__law_rules g__law_rules
  have h__law_let := is__law_let (P := P) (w := w) (base := base) T F__law_let g__law_let
  have h__law_people := is__law_people (P := P) (w := w) (base := base) T h__law_draw F__law_people g__law_people
  have h__law_told := is__law_told (P := P) (w := w) (base := base) T h__law_let F__law_told g__law_told
  exact ok_law T h_nobody h__law_pen h__law_cell h__law_told h__law_rules h__law_people h__law_kinds F_law
theorem lam_in {K : PySem.W.Frag} (ex : exB K = true) : DL.lamIn K viewNames = true := by
  replace ex := exBL_of ex
  simp only [exBL, Bool.and_eq_true] at ex
  exact ex.2
end Lw
open PySem PySem.W PySem.Calls PyProof.Rows
theorem PySem.Challenge.cw_doorhouse_k47_rights_that_nobody_has_holds : PySem.Challenge.rw_doorhouse_k47_rights_that_nobody_has.Holds := by
  w_on; o_law
  refine HandSHeadRun.head_any (r := OpenLaw.row PySem.Challenge.rw_doorhouse_k47_rights_that_nobody_has) (q := view (OpenLaw.row PySem.Challenge.rw_doorhouse_k47_rights_that_nobody_has).prog [45]) (H := Lw.hk) (ob := Lw.ob) (M := 9000) (loose := Lw.loose) (d := HandSHeadRun.topDef (OpenLaw.row PySem.Challenge.rw_doorhouse_k47_rights_that_nobody_has).prog 45) (kwd := []) Lw.ob_eq
    (by kernel_rfl) (fun s => by kernel_rfl) Lw.run (by kernel_rfl) (by kernel_rfl) (by kernel_rfl) (by rfl) (by first | assumption | decide +kernel) (by decide +kernel) ⟨rfl, rfl, rfl, rfl, rfl, by decide +kernel⟩ ?hw ?hc
  case hw => w_witness2
  case hc =>
    refine DL.walkG (l := PySem.Challenge.rw_doorhouse_k47_rights_that_nobody_has) (n := 63) (k := 8) (x := "_law_script") (names := Lw.viewNames) rfl (by decide) (by kernel_rfl) ⟨⟨rfl, by decide, by decide⟩, rfl⟩ (by kernel_rfl) ?F
    intro w mg fa h Y G hmg0
    obtain ⟨K, KX, c⟩ := Y
    have hmg : mg ("law" : PySem.Str) = some (.ref fa) := by
      have e : (HandSHeadRun.topDef (OpenLaw.row PySem.Challenge.rw_doorhouse_k47_rights_that_nobody_has).prog 45).name = ("law" : PySem.Str) := by kernel_rfl
      rw [← e]
      exact hmg0
    obtain ⟨fd, hb, hF⟩ := Lw.facts (P := (PySem.Challenge.rw_doorhouse_k47_rights_that_nobody_has).prog) (w := w) KX G hmg c.t.d c.more
    exact ⟨K, fd, fun vs H Q _ => DL.spC K mg Lw.m_law vs H Q L2.E0, KX, Lw.lam_in c.more, hb, fun H a ns hl tb hS => DL.law_sp Lw.law_true H a ns hl tb hS, fun base b1 b2 b3 => DL.fn_calm (hF base b1 b2 b3)⟩
