import PyProof.Rows.All
import Wide.All
import OpenK.AllK
import Wide.FinOn
import PySem.Challenge.RW_latebound_k74_whole_names_of_the_wants_a
import KE.OsRunLaw
import HandS.ForMost
import HandS.IsInst
import HandS.Defaults
import PySem.Str
import HandS.Star
import HandS.TupAny
import HandS.Conv
import PyProof.NeKinds
import KE.GoesEnum
import KE.GoesMore
import HandS.DictTup
import HandS.Strs
import HandS.DictComp
import HandS.Iter
import PyProof.DictUpdate
import HandS.More
import HandS.SetFor
import KE.KDictKeyed
import KE.KeyNested
import KE.KDictDisplayH
import HandS.Style
import KE.SortCalls
import HandS.TupSets
set_option Elab.async false
set_option linter.all false
set_option maxRecDepth 100000
set_option maxHeartbeats 4000000
/-! K74.KQ: what the top has left, as facts about the written part; the head. -/
namespace K74
open PySem PySem.Spec PyProof.Rows L2
def top (i : Nat) : Stmt := PySem.Challenge.pw_latebound_k74_whole_names_of_the_wants_a.main.body.getD i (.Pass ⟨0, 0, 0, 0⟩)
/-- a def of the module -/
structure DF (K : PySem.W.Frag) (mg : Str → Option Value) (x : Str) (st : Stmt) (ps : List Str) : Prop where
  ex : ∃ f fd, Fun K x x st f fd ∧ mg x = some (.ref f) ∧ Binds K fd ps []
/-- a method -/
structure MF (K : PySem.W.Frag) (C : Addr) (m qual : Str) (st : Stmt) (ps : List Str) : Prop where
  ex : ∃ f fd, Fun K m qual st f fd ∧ Meth K C m f ∧ Binds K fd ps []
section
variable {P : Program} {w : World} {K : PySem.W.Frag} {mg : Str → Option Value} {base : Heap} {h : Heap} {k : Nat} {C : Addr} {x m qual : Str} {st : Stmt} {ps : List Str} {sp : Sp}
/-- how arguments come to the parameters -/
def BindsFor (st : Stmt) (x qual : Str) (ps : List Str) : Prop := ∀ (K : PySem.W.Frag) (f : Addr) (fd : FuncData), Fun K x qual st f fd → Binds K fd ps []
theorem DF.mk' {f : Addr} {od an : Option Addr} {sl : Array (Option Value)} {oc kV dc pm cd ct : Value} (X : K.In h) (G : h.Ns mainGlobals mg) (bd : BindsFor st x x ps) (a : PySem.W.nsIn K mainGlobals x = some (some (.ref f)))
    (l : K.lookup f = some ⟨oc, od, .func (PySem.W.fnOf x x (defArgs st) (defBody st) (defScope st) .none kV dc pm an cd ct), sl⟩) (c : PySem.W.codeIn K cd x = true) (kp : PySem.W.keepIn K (.ref f) = true) : DF K mg x st ps :=
  ⟨f, _, fun_mk l c kp, PySem.W.mg_of X G a, bd _ _ _ (fun_mk l c kp)⟩
theorem MF.mk' {f : Addr} {od an : Option Addr} {sl : Array (Option Value)} {oc kV dc pm cd ct : Value} (bd : BindsFor st m qual ps) (a : PySem.W.findIn K (.ref C) m = some (some (.ref f))) (i : PySem.W.isFn K (.ref f) = true)
    (l : K.lookup f = some ⟨oc, od, .func (PySem.W.fnOf m qual (defArgs st) (defBody st) (defScope st) .none kV dc pm an cd ct), sl⟩) (c : PySem.W.codeIn K cd qual = true) (kp : PySem.W.keepIn K (.ref f) = true) : MF K C m qual st ps :=
  ⟨f, _, fun_mk l c kp, ⟨a, i, kp⟩, bd _ _ _ (fun_mk l c kp)⟩
end
theorem b_serves : BindsFor (top 24) "serves" "serves" ["definition", "use"] := fun K f fd F => F.binds fun _ _ _ _ _ _ us hl => match us, hl with | [_, _], _ => rfl
theorem b_version_of : BindsFor (top 25) "version_of" "version_of" ["lib", "use"] := fun K f fd F => F.binds fun _ _ _ _ _ _ us hl => match us, hl with | [_, _], _ => rfl
theorem b_lib_of : BindsFor (top 12) "lib_of" "lib_of" ["program", "name"] := fun K f fd F => F.binds fun _ _ _ _ _ _ us hl => match us, hl with | [_, _], _ => rfl
theorem b_lib_at : BindsFor (top 19) "lib_at" "lib_at" ["program", "name"] := fun K f fd F => F.binds fun _ _ _ _ _ _ us hl => match us, hl with | [_, _], _ => rfl
theorem b_use_at : BindsFor (top 20) "use_at" "use_at" ["program", "name", "number"] := fun K f fd F => F.binds fun _ _ _ _ _ _ us hl => match us, hl with | [_, _, _], _ => rfl
theorem b_main_of : BindsFor (top 45) "main_of" "main_of" ["program"] := fun K f fd F => F.binds fun _ _ _ _ _ _ us hl => match us, hl with | [_], _ => rfl
theorem b_as_tuples : BindsFor (top 9) "as_tuples" "as_tuples" ["thing"] := fun K f fd F => F.binds fun _ _ _ _ _ _ us hl => match us, hl with | [_], _ => rfl
theorem b_row : BindsFor (top 21) "row" "row" ["program", "names"] := fun K f fd F => F.binds fun _ _ _ _ _ _ us hl => match us, hl with | [_, _], _ => rfl
theorem b_first_row : BindsFor (top 22) "first_row" "first_row" ["program"] := fun K f fd F => F.binds fun _ _ _ _ _ _ us hl => match us, hl with | [_], _ => rfl
theorem b_door_row : BindsFor (top 23) "door_row" "door_row" ["program", "number"] := fun K f fd F => F.binds fun _ _ _ _ _ _ us hl => match us, hl with | [_, _], _ => rfl
theorem b_others_of : BindsFor (top 46) "others_of" "others_of" ["program"] := fun K f fd F => F.binds fun _ _ _ _ _ _ us hl => match us, hl with | [_], _ => rfl
theorem b_with_preload : BindsFor (top 47) "with_preload" "with_preload" ["program", "preload"] := fun K f fd F => F.binds fun _ _ _ _ _ _ us hl => match us, hl with | [_, _], _ => rfl
theorem b_server : BindsFor (top 48) "server" "server" ["program", "line", "use"] := fun K f fd F => F.binds fun _ _ _ _ _ _ us hl => match us, hl with | [_, _, _], _ => rfl
theorem b_doors_of : BindsFor (top 49) "doors_of" "doors_of" ["program", "name"] := fun K f fd F => F.binds fun _ _ _ _ _ _ us hl => match us, hl with | [_, _], _ => rfl
theorem b_is_name : BindsFor (top 10) "is_name" "is_name" ["thing"] := fun K f fd F => F.binds fun _ _ _ _ _ _ us hl => match us, hl with | [_], _ => rfl
theorem b_are_names : BindsFor (top 11) "are_names" "are_names" ["thing"] := fun K f fd F => F.binds fun _ _ _ _ _ _ us hl => match us, hl with | [_], _ => rfl
theorem b_is_preload : BindsFor (top 53) "is_preload" "is_preload" ["program", "thing"] := fun K f fd F => F.binds fun _ _ _ _ _ _ us hl => match us, hl with | [_, _], _ => rfl
theorem b_looked : BindsFor (top 52) "looked" "looked" ["program", "wanted"] := fun K f fd F => F.binds fun _ _ _ _ _ _ us hl => match us, hl with | [_, _], _ => rfl
theorem b_rows_of_names : BindsFor (top 55) "rows_of_names" "rows_of_names" ["names", "many"] := fun K f fd F => F.binds fun _ _ _ _ _ _ us hl => match us, hl with | [_, _], _ => rfl
theorem b_names_in : BindsFor (top 56) "names_in" "names_in" ["program", "wanted"] := fun K f fd F => F.binds fun _ _ _ _ _ _ us hl => match us, hl with | [_, _], _ => rfl
theorem b_rows_to_public : BindsFor (top 50) "rows_to_public" "rows_to_public" ["program"] := fun K f fd F => F.binds fun _ _ _ _ _ _ us hl => match us, hl with | [_], _ => rfl
theorem b_next_steps : BindsFor (top 39) "next_steps" "next_steps" ["process", "doors"] := fun K f fd F => F.binds fun _ _ _ _ _ _ us hl => match us, hl with | [_, _], _ => rfl
theorem b_first_runs : BindsFor (top 42) "first_runs" "first_runs" ["moments", "name", "i"] := fun K f fd F => F.binds fun _ _ _ _ _ _ us hl => match us, hl with | [_, _, _], _ => rfl
theorem b_bindings : BindsFor (top 43) "bindings" "bindings" ["program", "name", "i"] := fun K f fd F => F.binds fun _ _ _ _ _ _ us hl => match us, hl with | [_, _, _], _ => rfl
theorem b_many_preloads : BindsFor (top 58) "many_preloads" "many_preloads" ["program", "wanted", "many"] := fun K f fd F => F.binds fun _ _ _ _ _ _ us hl => match us, hl with | [_, _, _], _ => rfl
theorem b_least_preload : BindsFor (top 57) "least_preload" "least_preload" ["program", "wanted"] := fun K f fd F => F.binds fun _ _ _ _ _ _ us hl => match us, hl with | [_, _], _ => rfl
theorem b_shows_preload : BindsFor (top 54) "shows_preload" "shows_preload" ["program", "wanted", "thing"] := fun K f fd F => F.binds fun _ _ _ _ _ _ us hl => match us, hl with | [_, _, _], _ => rfl
theorem b_law_take : BindsFor (top 61) "_law_take" "_law_take" ["_law_box_here", "_law_below"] := fun K f fd F => F.binds fun _ _ _ _ _ _ us hl => match us, hl with | [_, _], _ => rfl
theorem b_law_of : BindsFor (top 62) "_law_of" "_law_of" ["_law_box_here", "_law_some"] := fun K f fd F => F.binds fun _ _ _ _ _ _ us hl => match us, hl with | [_, _], _ => rfl
theorem b_law_picked : BindsFor (top 63) "_law_picked" "_law_picked" ["_law_box_here", "_law_pool", "_law_most"] := fun K f fd F => F.binds fun _ _ _ _ _ _ us hl => match us, hl with | [_, _, _], _ => rfl
theorem b_law_lib : BindsFor (top 65) "_law_lib" "_law_lib" ["_law_prog", "_law_who"] := fun K f fd F => F.binds fun _ _ _ _ _ _ us hl => match us, hl with | [_, _], _ => rfl
theorem b_law_gives : BindsFor (top 66) "_law_gives" "_law_gives" ["_law_prog", "_law_who", "_law_use"] := fun K f fd F => F.binds fun _ _ _ _ _ _ us hl => match us, hl with | [_, _, _], _ => rfl
theorem b_law_calls : BindsFor (top 67) "_law_calls" "_law_calls" ["_law_prog"] := fun K f fd F => F.binds fun _ _ _ _ _ _ us hl => match us, hl with | [_], _ => rfl
theorem b_law_rows : BindsFor (top 70) "_law_rows" "_law_rows" ["_law_pool", "_law_size"] := fun K f fd F => F.binds fun _ _ _ _ _ _ us hl => match us, hl with | [_, _], _ => rfl
theorem b_law_others : BindsFor (top 71) "_law_others" "_law_others" ["_law_prog"] := fun K f fd F => F.binds fun _ _ _ _ _ _ us hl => match us, hl with | [_], _ => rfl
theorem b_law_prog_right : BindsFor (top 72) "_law_prog_right" "_law_prog_right" ["_law_prog", "_law_wishes_here"] := fun K f fd F => F.binds fun _ _ _ _ _ _ us hl => match us, hl with | [_, _], _ => rfl
theorem b_law_program : BindsFor (top 64) "_law_program" "_law_program" ["_law_box_here", "_law_most", "_law_doors_so"] := fun K f fd F => F.binds fun _ _ _ _ _ _ us hl => match us, hl with | [_, _, _], _ => rfl
theorem b_law_wish : BindsFor (top 68) "_law_wish" "_law_wish" ["_law_box_here", "_law_prog"] := fun K f fd F => F.binds fun _ _ _ _ _ _ us hl => match us, hl with | [_, _], _ => rfl
theorem b_law_wishes : BindsFor (top 69) "_law_wishes" "_law_wishes" ["_law_box_here", "_law_prog", "_law_most"] := fun K f fd F => F.binds fun _ _ _ _ _ _ us hl => match us, hl with | [_, _, _], _ => rfl
theorem b_law_box : BindsFor (top 60) "_law_box" "_law_box" ["_law_script", "_law_k"] := fun K f fd F => F.binds fun _ _ _ _ _ _ us hl => match us, hl with | [_, _], _ => rfl
theorem b_law_right : BindsFor (top 73) "_law_right" "_law_right" ["_law_box_here"] := fun K f fd F => F.binds fun _ _ _ _ _ _ us hl => match us, hl with | [_], _ => rfl
theorem b_law : BindsFor (top 74) "law" "law" ["_law_script"] := fun K f fd F => F.binds fun _ _ _ _ _ _ us hl => match us, hl with | [_], _ => rfl
theorem b_is_there : BindsFor (inClass (top 37) 5) "is_there" "Process.is_there" ["self", "name"] := fun K f fd F => F.binds fun _ _ _ _ _ _ us hl => match us, hl with | [_, _], _ => rfl
theorem b_look_there : BindsFor (inClass (top 37) 9) "look_there" "Process.look_there" ["self", "name"] := fun K f fd F => F.binds fun _ _ _ _ _ _ us hl => match us, hl with | [_, _], _ => rfl
theorem b_counts : BindsFor (inClass (top 37) 3) "counts" "Process.counts" ["self"] := fun K f fd F => F.binds fun _ _ _ _ _ _ us hl => match us, hl with | [_], _ => rfl
theorem b_opened : BindsFor (inClass (top 37) 4) "opened" "Process.opened" ["self"] := fun K f fd F => F.binds fun _ _ _ _ _ _ us hl => match us, hl with | [_], _ => rfl
theorem b_deep : BindsFor (inClass (top 37) 8) "deep" "Process.deep" ["self"] := fun K f fd F => F.binds fun _ _ _ _ _ _ us hl => match us, hl with | [_], _ => rfl
theorem b_base : BindsFor (inClass (top 37) 12) "base" "Process.base" ["self"] := fun K f fd F => F.binds fun _ _ _ _ _ _ us hl => match us, hl with | [_], _ => rfl
theorem b_look_door : BindsFor (inClass (top 37) 14) "look_door" "Process.look_door" ["self", "k"] := fun K f fd F => F.binds fun _ _ _ _ _ _ us hl => match us, hl with | [_, _], _ => rfl
theorem b_looks : BindsFor (inClass (top 37) 10) "looks" "Process.looks" ["self", "name"] := fun K f fd F => F.binds fun _ _ _ _ _ _ us hl => match us, hl with | [_, _], _ => rfl
theorem b_found : BindsFor (inClass (top 37) 20) "found" "Process.found" ["self", "name", "i"] := fun K f fd F => F.binds fun _ _ _ _ _ _ us hl => match us, hl with | [_, _, _], _ => rfl
theorem b_all_here : BindsFor (inClass (top 37) 1) "all_here" "Process.all_here" ["self"] := fun K f fd F => F.binds fun _ _ _ _ _ _ us hl => match us, hl with | [_], _ => rfl
theorem b_Ground_init : BindsFor (inClass (top 36) 0) "__init__" "Ground.__init__" ["self", "program"] := fun K f fd F => F.binds fun _ _ _ _ _ _ us hl => match us, hl with | [_, _], _ => rfl
theorem b_Process_init : BindsFor (inClass (top 37) 0) "__init__" "Process.__init__" ["self", "program"] := fun K f fd F => F.binds fun _ _ _ _ _ _ us hl => match us, hl with | [_, _], _ => rfl
theorem b_twin : BindsFor (inClass (top 37) 2) "twin" "Process.twin" ["self"] := fun K f fd F => F.binds fun _ _ _ _ _ _ us hl => match us, hl with | [_], _ => rfl
theorem b_go : BindsFor (inClass (top 37) 18) "go" "Process.go" ["self"] := fun K f fd F => F.binds fun _ _ _ _ _ _ us hl => match us, hl with | [_], _ => rfl
theorem b_come : BindsFor (inClass (top 37) 16) "come" "Process.come" ["self", "k"] := fun K f fd F => F.binds fun _ _ _ _ _ _ us hl => match us, hl with | [_, _], _ => rfl
theorem b_open_door : BindsFor (inClass (top 37) 15) "open_door" "Process.open_door" ["self", "k"] := fun K f fd F => F.binds fun _ _ _ _ _ _ us hl => match us, hl with | [_, _], _ => rfl
theorem b_close_door : BindsFor (inClass (top 37) 17) "close_door" "Process.close_door" ["self", "k"] := fun K f fd F => F.binds fun _ _ _ _ _ _ us hl => match us, hl with | [_, _], _ => rfl
theorem b_do : BindsFor (inClass (top 37) 22) "do" "Process.do" ["self", "step"] := fun K f fd F => F.binds fun _ _ _ _ _ _ us hl => match us, hl with | [_, _], _ => rfl
theorem b_told_alone : BindsFor (inClass (top 51) 2) "told_alone" "Trial.told_alone" ["self", "name", "i"] := fun K f fd F => F.binds fun _ _ _ _ _ _ us hl => match us, hl with | [_, _, _], _ => rfl
theorem b_told_inside : BindsFor (inClass (top 51) 1) "told_inside" "Trial.told_inside" ["self", "first", "use"] := fun K f fd F => F.binds fun _ _ _ _ _ _ us hl => match us, hl with | [_, _, _], _ => rfl
theorem b_told_outside : BindsFor (inClass (top 51) 3) "told_outside" "Trial.told_outside" ["self", "first", "name", "i", "use"] := fun K f fd F => F.binds fun _ _ _ _ _ _ us hl => match us, hl with | [_, _, _, _, _], _ => rfl
theorem b_gives : BindsFor (inClass (top 51) 4) "gives" "Trial.gives" ["self", "preload", "want"] := fun K f fd F => F.binds fun _ _ _ _ _ _ us hl => match us, hl with | [_, _, _], _ => rfl
theorem b_Trial_gives_all : BindsFor (inClass (top 51) 5) "gives_all" "Trial.gives_all" ["self", "preload", "wanted"] := fun K f fd F => F.binds fun _ _ _ _ _ _ us hl => match us, hl with | [_, _, _], _ => rfl
theorem b_Trial_init : BindsFor (inClass (top 51) 0) "__init__" "Trial.__init__" ["self", "program"] := fun K f fd F => F.binds fun _ _ _ _ _ _ us hl => match us, hl with | [_, _], _ => rfl
theorem b_Trial_is_possible : BindsFor (inClass (top 51) 6) "is_possible" "Trial.is_possible" ["self", "wanted"] := fun K f fd F => F.binds fun _ _ _ _ _ _ us hl => match us, hl with | [_, _], _ => rfl
/-- an __init__ -/
structure IF (K : PySem.W.Frag) (C : Addr) (qual : Str) (st : Stmt) (ps : List Str) : Prop where
  ex : ∃ f fd, Fun K "__init__" qual st f fd ∧ Mk K C f ∧ Binds K fd ps []
/-- a def with one default None -/
structure DD (K : PySem.W.Frag) (mg : Str → Option Value) (x : Str) (st : Stmt) (ps : List Str) : Prop where
  ex : ∃ f fd ds, FunD K x x (defArgs st) (defBody st) (defScope st) [.non] [] f fd ∧ mg x = some (.ref f) ∧ Binds K fd ps ds ∧ Vals [V.non] ds
/-- a tuple of one text -/
def TupS (K : PySem.W.Frag) (mg : Str → Option Value) (x s : Str) : Prop := ∃ (p : Addr) (od : Option Addr) (t : Tok) (n : Nat) (sl : Array (Option Value)), mg x = some (.ref p) ∧ K.lookup p = some ⟨.type "tuple", od, .seq #[.str s t] n, sl⟩
/-- a class of the module, its instances by isinstance -/
structure IsG (K : PySem.W.Frag) (C : Addr) : Prop where
  tup : PySem.W.kitOne K (.type "tuple") (.ref C) = some false
  ha : PySem.W.findIn K (.ref C) "__class__" = some (some (.builtin "object.__class__"))
  hn : PySem.W.specialIn K (.builtin "object.__class__") "__get__" = some (some (.builtin "getset_descriptor.__get__"))
  htk : PySem.W.takesIn K (.builtin "object.__class__") = some true
  hm : PySem.W.mroIn K C (.type "object") = some true
section
variable {K : PySem.W.Frag} {mg : Str → Option Value} {h : Heap} {C : Addr} {x m qual : Str} {st : Stmt} {ps : List Str} {f T : Addr} {od an : Option Addr} {sl : Array (Option Value)} {oc kV dc pm cd ct : Value}
theorem mf2 (g : mg x = some (.ref C)) (bd : BindsFor st m qual ps) (a : PySem.W.findIn K (.ref C) m = some (some (.ref f))) (i : PySem.W.isFn K (.ref f) = true)
    (l : K.lookup f = some ⟨oc, od, .func (PySem.W.fnOf m qual (defArgs st) (defBody st) (defScope st) .none kV dc pm an cd ct), sl⟩) (c : PySem.W.codeIn K cd qual = true) (kp : PySem.W.keepIn K (.ref f) = true) : MF K C m qual st ps := MF.mk' bd a i l c kp
theorem if2 (g : mg x = some (.ref C)) (bd : BindsFor st "__init__" qual ps) (mk : PySem.W.makesIn K C = true) (a : PySem.W.findIn K (.ref C) "__init__" = some (some (.ref f))) (i : PySem.W.isFn K (.ref f) = true) (kc : PySem.W.keepIn K (.ref C) = true)
    (l : K.lookup f = some ⟨oc, od, .func (PySem.W.fnOf "__init__" qual (defArgs st) (defBody st) (defScope st) .none kV dc pm an cd ct), sl⟩) (c : PySem.W.codeIn K cd qual = true) (kp : PySem.W.keepIn K (.ref f) = true) : IF K C qual st ps :=
  ⟨f, _, fun_mk l c kp, ⟨mk, a, i, kc⟩, bd _ _ _ (fun_mk l c kp)⟩
theorem dd_walk {od2 : Option Addr} {sl2 : Array (Option Value)} {n : Nat} (X : K.In h) (G : h.Ns mainGlobals mg) (a : PySem.W.nsIn K mainGlobals "walk" = some (some (.ref f)))
    (l : K.lookup f = some ⟨oc, od, .func (PySem.W.fnOf "walk" "walk" (defArgs (top 40)) (defBody (top 40)) (defScope (top 40)) (.ref T) kV dc pm an cd ct), sl⟩) (l2 : K.lookup T = some ⟨.type "tuple", od2, .seq #[.none] n, sl2⟩) (c : PySem.W.codeIn K cd "walk" = true) (kp : PySem.W.keepIn K (.ref f) = true) : DD K mg "walk" (top 40) ["program", "doors"] := by
  have F : FunD K "walk" "walk" (defArgs (top 40)) (defBody (top 40)) (defScope (top 40)) [.non] [] f (PySem.W.fnOf "walk" "walk" (defArgs (top 40)) (defBody (top 40)) (defScope (top 40)) (.ref T) kV dc pm an cd ct) :=
    ⟨⟨oc, od, _, kV, dc, pm, an, cd, ct, sl, rfl, l, c, .inr ⟨by simp, T, _, [.none], n, rfl, l2, rfl, .cons rfl .nil⟩, .inl rfl⟩, kp⟩
  obtain ⟨ds, v, b⟩ := FunD.binds1 (ps := ["program", "doors"]) F 1 0 (by simp) rfl fun T kV doc pm an cdv ct us its h1 h2 => match us, its, h1, h2 with | [_], [_], _, _ => ⟨_, rfl, rfl⟩
  exact ⟨f, _, ds, F, PySem.W.mg_of X G a, b, v⟩
theorem cls2 (g : mg x = some (.ref C)) (pg : PySem.W.plainGet K C Str.empty = true) (hd : PySem.W.hasDictIn K C = true) (po : PySem.W.plainOver K C = true) (sa : PySem.W.findIn K (.ref C) "__setattr__" = some (some (.builtin "object.__setattr__"))) : Cls K C := ⟨pg, hd, po, sa⟩
theorem na2 (g : mg x = some (.ref C)) (a : PySem.W.findIn K (.ref C) m = some none) : NoAttr K C m := a
theorem isg2 (g : mg x = some (.ref C)) (t : PySem.W.kitOne K (.type "tuple") (.ref C) = some false) (ha : PySem.W.findIn K (.ref C) "__class__" = some (some (.builtin "object.__class__")))
    (hn : PySem.W.specialIn K (.builtin "object.__class__") "__get__" = some (some (.builtin "getset_descriptor.__get__"))) (htk : PySem.W.takesIn K (.builtin "object.__class__") = some true) (hm : PySem.W.mroIn K C (.type "object") = some true) : IsG K C := ⟨t, ha, hn, htk, hm⟩
theorem no2 (X : K.In h) (G : h.Ns mainGlobals mg) (a : PySem.W.nsIn K mainGlobals x = some none) : mg x = none := PySem.W.mg_none_of X G a
theorem cg2 (X : K.In h) (G : h.Ns mainGlobals mg) (a : PySem.W.nsIn K mainGlobals x = some (some (.ref C))) : mg x = some (.ref C) := PySem.W.mg_of X G a
theorem gs2 {s : Str} {t : Tok} (X : K.In h) (G : h.Ns mainGlobals mg) (a : PySem.W.nsIn K mainGlobals x = some (some (.str s t))) : ∃ t, mg x = some (.str s t) := ⟨t, PySem.W.mg_of X G a⟩
theorem gi2 {i : Int} {t : Tok} (X : K.In h) (G : h.Ns mainGlobals mg) (a : PySem.W.nsIn K mainGlobals x = some (some (.int i t))) : ∃ t, mg x = some (.int i t) := ⟨t, PySem.W.mg_of X G a⟩
theorem gt2 {s : Str} {t : Tok} {p : Addr} {od : Option Addr} {n : Nat} {sl : Array (Option Value)} (X : K.In h) (G : h.Ns mainGlobals mg) (a : PySem.W.nsIn K mainGlobals x = some (some (.ref p))) (l : K.lookup p = some ⟨.type "tuple", od, .seq #[.str s t] n, sl⟩) : TupS K mg x s := ⟨p, od, t, n, sl, PySem.W.mg_of X G a, l⟩
end
/-- what the top has left -/
structure Raw (K : PySem.W.Frag) (mg : Str → Option Value) (CP CG CT : Addr) : Prop where
  n_len : mg ("len" : Str) = none
  n_list : mg ("list" : Str) = none
  n_tuple : mg ("tuple" : Str) = none
  n_all : mg ("all" : Str) = none
  n_any : mg ("any" : Str) = none
  n_sum : mg ("sum" : Str) = none
  n_sorted : mg ("sorted" : Str) = none
  n_min : mg ("min" : Str) = none
  n_range : mg ("range" : Str) = none
  n_isinstance : mg ("isinstance" : Str) = none
  n_str : mg ("str" : Str) = none
  n_set : mg ("set" : Str) = none
  n_enumerate : mg ("enumerate" : Str) = none
  n_dict : mg ("dict" : Str) = none
  n_abs : mg ("abs" : Str) = none
  n_int : mg ("int" : Str) = none
  k_LETTERS : ∃ t, mg ("LETTERS" : Str) = some (.str ("abcdefghijklmnopqrstuvwxyz" : Str) t)
  k_GLOBAL : ∃ t, mg ("GLOBAL" : Str) = some (.str ("global" : Str) t)
  k_DEEP : ∃ t, mg ("DEEP" : Str) = some (.str ("deep" : Str) t)
  k_OPEN : ∃ t, mg ("OPEN" : Str) = some (.str ("open" : Str) t)
  k_CLOSE : ∃ t, mg ("CLOSE" : Str) = some (.str ("close" : Str) t)
  k_CALL : ∃ t, mg ("CALL" : Str) = some (.str ("call" : Str) t)
  k_BOUND : ∃ t, mg ("BOUND" : Str) = some (.str ("bound" : Str) t)
  k_MOST_LETTERS : ∃ t, mg ("MOST_LETTERS" : Str) = some (.int 8 t)
  k_MOST : ∃ t, mg ("MOST" : Str) = some (.int 2 t)
  k_OPENED : TupS K mg "OPENED" "opened"
  k_CLOSED : TupS K mg "CLOSED" "closed"
  k_FULL : TupS K mg "FULL" "full"
  k_SHUT : TupS K mg "SHUT" "shut"
  k_NOBODY : TupS K mg "NOBODY" "nobody"
  k_LOST : TupS K mg "LOST" "lost"
  k_TORN : TupS K mg "TORN" "torn"
  gP : mg ("Process" : Str) = some (.ref CP)
  clP : Cls K CP
  gG : mg ("Ground" : Str) = some (.ref CG)
  clG : Cls K CG
  gT : mg ("Trial" : Str) = some (.ref CT)
  clT : Cls K CT
  aP_ground : NoAttr K CP ("own_ground" : Str)
  aP_program : NoAttr K CP ("own_program" : Str)
  aP_first : NoAttr K CP ("own_first" : Str)
  aP_rows : NoAttr K CP ("own_rows" : Str)
  aP_counts : NoAttr K CP ("own_counts" : Str)
  aP_opened : NoAttr K CP ("own_opened" : Str)
  aP_public : NoAttr K CP ("own_public" : Str)
  aP_deep : NoAttr K CP ("own_deep" : Str)
  aP_slots : NoAttr K CP ("own_slots" : Str)
  aP_here : NoAttr K CP ("own_here" : Str)
  aG_program : NoAttr K CG ("own_program" : Str)
  aG_first : NoAttr K CG ("own_first" : Str)
  aG_rows : NoAttr K CG ("own_rows" : Str)
  aT_program : NoAttr K CT ("own_program" : Str)
  aT_walked : NoAttr K CT ("own_walked" : Str)
  ig : IsG K CG
  iP : IF K CP "Process.__init__" (inClass (top 37) 0) ["self", "program"]
  iG : IF K CG "Ground.__init__" (inClass (top 36) 0) ["self", "program"]
  iT : IF K CT "Trial.__init__" (inClass (top 51) 0) ["self", "program"]
  d_walk : DD K mg "walk" (top 40) ["program", "doors"]
  d_serves : DF K mg "serves" (top 24) ["definition", "use"]
  d_version_of : DF K mg "version_of" (top 25) ["lib", "use"]
  d_lib_of : DF K mg "lib_of" (top 12) ["program", "name"]
  d_lib_at : DF K mg "lib_at" (top 19) ["program", "name"]
  d_use_at : DF K mg "use_at" (top 20) ["program", "name", "number"]
  d_main_of : DF K mg "main_of" (top 45) ["program"]
  d_as_tuples : DF K mg "as_tuples" (top 9) ["thing"]
  d_row : DF K mg "row" (top 21) ["program", "names"]
  d_first_row : DF K mg "first_row" (top 22) ["program"]
  d_door_row : DF K mg "door_row" (top 23) ["program", "number"]
  d_others_of : DF K mg "others_of" (top 46) ["program"]
  d_with_preload : DF K mg "with_preload" (top 47) ["program", "preload"]
  d_server : DF K mg "server" (top 48) ["program", "line", "use"]
  d_doors_of : DF K mg "doors_of" (top 49) ["program", "name"]
  d_is_name : DF K mg "is_name" (top 10) ["thing"]
  d_are_names : DF K mg "are_names" (top 11) ["thing"]
  d_is_preload : DF K mg "is_preload" (top 53) ["program", "thing"]
  d_looked : DF K mg "looked" (top 52) ["program", "wanted"]
  d_rows_of_names : DF K mg "rows_of_names" (top 55) ["names", "many"]
  d_names_in : DF K mg "names_in" (top 56) ["program", "wanted"]
  d_rows_to_public : DF K mg "rows_to_public" (top 50) ["program"]
  d_next_steps : DF K mg "next_steps" (top 39) ["process", "doors"]
  d_first_runs : DF K mg "first_runs" (top 42) ["moments", "name", "i"]
  d_bindings : DF K mg "bindings" (top 43) ["program", "name", "i"]
  d_many_preloads : DF K mg "many_preloads" (top 58) ["program", "wanted", "many"]
  d_least_preload : DF K mg "least_preload" (top 57) ["program", "wanted"]
  d_shows_preload : DF K mg "shows_preload" (top 54) ["program", "wanted", "thing"]
  d_law_take : DF K mg "_law_take" (top 61) ["_law_box_here", "_law_below"]
  d_law_of : DF K mg "_law_of" (top 62) ["_law_box_here", "_law_some"]
  d_law_picked : DF K mg "_law_picked" (top 63) ["_law_box_here", "_law_pool", "_law_most"]
  d_law_lib : DF K mg "_law_lib" (top 65) ["_law_prog", "_law_who"]
  d_law_gives : DF K mg "_law_gives" (top 66) ["_law_prog", "_law_who", "_law_use"]
  d_law_calls : DF K mg "_law_calls" (top 67) ["_law_prog"]
  d_law_rows : DF K mg "_law_rows" (top 70) ["_law_pool", "_law_size"]
  d_law_others : DF K mg "_law_others" (top 71) ["_law_prog"]
  d_law_prog_right : DF K mg "_law_prog_right" (top 72) ["_law_prog", "_law_wishes_here"]
  d_law_program : DF K mg "_law_program" (top 64) ["_law_box_here", "_law_most", "_law_doors_so"]
  d_law_wish : DF K mg "_law_wish" (top 68) ["_law_box_here", "_law_prog"]
  d_law_wishes : DF K mg "_law_wishes" (top 69) ["_law_box_here", "_law_prog", "_law_most"]
  d_law_box : DF K mg "_law_box" (top 60) ["_law_script", "_law_k"]
  d_law_right : DF K mg "_law_right" (top 73) ["_law_box_here"]
  d_law : DF K mg "law" (top 74) ["_law_script"]
  m_is_there : MF K CP "is_there" "Process.is_there" (inClass (top 37) 5) ["self", "name"]
  m_look_there : MF K CP "look_there" "Process.look_there" (inClass (top 37) 9) ["self", "name"]
  m_counts : MF K CP "counts" "Process.counts" (inClass (top 37) 3) ["self"]
  m_opened : MF K CP "opened" "Process.opened" (inClass (top 37) 4) ["self"]
  m_deep : MF K CP "deep" "Process.deep" (inClass (top 37) 8) ["self"]
  m_base : MF K CP "base" "Process.base" (inClass (top 37) 12) ["self"]
  m_look_door : MF K CP "look_door" "Process.look_door" (inClass (top 37) 14) ["self", "k"]
  m_looks : MF K CP "looks" "Process.looks" (inClass (top 37) 10) ["self", "name"]
  m_found : MF K CP "found" "Process.found" (inClass (top 37) 20) ["self", "name", "i"]
  m_all_here : MF K CP "all_here" "Process.all_here" (inClass (top 37) 1) ["self"]
  m_twin : MF K CP "twin" "Process.twin" (inClass (top 37) 2) ["self"]
  m_go : MF K CP "go" "Process.go" (inClass (top 37) 18) ["self"]
  m_come : MF K CP "come" "Process.come" (inClass (top 37) 16) ["self", "k"]
  m_open_door : MF K CP "open_door" "Process.open_door" (inClass (top 37) 15) ["self", "k"]
  m_close_door : MF K CP "close_door" "Process.close_door" (inClass (top 37) 17) ["self", "k"]
  m_do : MF K CP "do" "Process.do" (inClass (top 37) 22) ["self", "step"]
  m_told_alone : MF K CT "told_alone" "Trial.told_alone" (inClass (top 51) 2) ["self", "name", "i"]
  m_told_inside : MF K CT "told_inside" "Trial.told_inside" (inClass (top 51) 1) ["self", "first", "use"]
  m_told_outside : MF K CT "told_outside" "Trial.told_outside" (inClass (top 51) 3) ["self", "first", "name", "i", "use"]
  m_gives : MF K CT "gives" "Trial.gives" (inClass (top 51) 4) ["self", "preload", "want"]
  m_Trial_gives_all : MF K CT "gives_all" "Trial.gives_all" (inClass (top 51) 5) ["self", "preload", "wanted"]
  m_Trial_is_possible : MF K CT "is_possible" "Trial.is_possible" (inClass (top 51) 6) ["self", "wanted"]
/-- what the law's def promises -/
def spEnd (K : PySem.W.Frag) : Sp := fun vs H Q _ => ∃ (a : Addr) (ns : List Int), vs = [.ref a] ∧ SqL K H a (ns.map V.int) ∧ ns.length ≤ 63 ∧ ∀ H', Q (.bl true) H'
/-- the law's def keeps its promise, wherever the facts hold -/
def Kept (P : Program) : Prop := ∀ (w : World) (K : PySem.W.Frag) (mg : Str → Option Value) (CP CG CT fa : Addr), Raw K mg CP CG CT → mg ("law" : Str) = some (.ref fa) → ∃ fd : FuncData, (∀ (s : Shared) (u : Value), BindsTo s fd ⟨[u], []⟩ [("_law_script", u)]) ∧ ∀ base : Heap, FnOk P w K mg base CX0 24 fa fd ["_law_script"] (spEnd K)
theorem lawWalk {l : PySem.W.OpenLaw} {q : Program} {loose : List Str} {XP : (Str → Option Value) → Heap → Prop} {YP : World → Heap → Prop} {d : DefRec} {K : Params → PySem.W.Frag} (hk : Kept l.prog) (hn : l.most = some 63) (hdf : d.params.defaults = []) (hnm : d.name = ("law" : Str))
    (hY : ∀ (w : World) (h : Heap), YP w h → (K w.params).In h)
    (F : ∀ (w : World) (mg : Str → Option Value) (h : Heap), (K w.params).In h → h.Ns mainGlobals mg → ∃ CP CG CT, Raw (K w.params) mg CP CG CT) :
    PySem.W.WalkO q loose XP YP l.row.toRowW d [] (fun f vs => PySem.call f vs) :=
  L2.walk_of (n := 63) (k := 24) (x := "_law_script") (CX := fun _ => CX0) (sp := fun w => spEnd (K w.params)) hn (by decide) hdf ⟨rfl, by decide, by decide⟩ hY (fun w mg fa h KX G hmg => by
    obtain ⟨CP, CG, CT, f⟩ := F w mg h KX G
    rw [hnm] at hmg
    obtain ⟨fd, h1, h2⟩ := hk w _ mg CP CG CT fa f hmg
    exact ⟨fd, h1, fun base _ _ => h2 base⟩) (fun _ _ a ns hl _ hS => ⟨a, ns, rfl, hS, hl, fun _ => rfl⟩) fun _ _ _ _ _ z => z
section
open PySem PySem.W PyProof.Rows
set_option maxRecDepth 100000
set_option maxHeartbeats 0
local macro_rules | `(tactic| k_head) => `(tactic| k_headL)
open_top head for PySem.Challenge.rw_latebound_k74_whole_names_of_the_wants_a
/-- what the top leaves has these facts -/
theorem raw : ∀ (w : World) (mg : PySem.Str → Option Value) (h : Heap), (head.heap_39 w.params).In h → h.Ns mainGlobals mg → ∃ CP CG CT, Raw (head.heap_39 w.params) mg CP CG CT := by
    intro w mg h KX G
    have n_len : mg ("len" : Str) = none := by as_aux_lemma =>
      refine' no2 KX G ?a
      (case a => k_is)
    have n_list : mg ("list" : Str) = none := by as_aux_lemma =>
      refine' no2 KX G ?a
      (case a => k_is)
    have n_tuple : mg ("tuple" : Str) = none := by as_aux_lemma =>
      refine' no2 KX G ?a
      (case a => k_is)
    have n_all : mg ("all" : Str) = none := by as_aux_lemma =>
      refine' no2 KX G ?a
      (case a => k_is)
    have n_any : mg ("any" : Str) = none := by as_aux_lemma =>
      refine' no2 KX G ?a
      (case a => k_is)
    have n_sum : mg ("sum" : Str) = none := by as_aux_lemma =>
      refine' no2 KX G ?a
      (case a => k_is)
    have n_sorted : mg ("sorted" : Str) = none := by as_aux_lemma =>
      refine' no2 KX G ?a
      (case a => k_is)
    have n_min : mg ("min" : Str) = none := by as_aux_lemma =>
      refine' no2 KX G ?a
      (case a => k_is)
    have n_range : mg ("range" : Str) = none := by as_aux_lemma =>
      refine' no2 KX G ?a
      (case a => k_is)
    have n_isinstance : mg ("isinstance" : Str) = none := by as_aux_lemma =>
      refine' no2 KX G ?a
      (case a => k_is)
    have n_str : mg ("str" : Str) = none := by as_aux_lemma =>
      refine' no2 KX G ?a
      (case a => k_is)
    have n_set : mg ("set" : Str) = none := by as_aux_lemma =>
      refine' no2 KX G ?a
      (case a => k_is)
    have n_enumerate : mg ("enumerate" : Str) = none := by as_aux_lemma =>
      refine' no2 KX G ?a
      (case a => k_is)
    have n_dict : mg ("dict" : Str) = none := by as_aux_lemma =>
      refine' no2 KX G ?a
      (case a => k_is)
    have n_abs : mg ("abs" : Str) = none := by as_aux_lemma =>
      refine' no2 KX G ?a
      (case a => k_is)
    have n_int : mg ("int" : Str) = none := by as_aux_lemma =>
      refine' no2 KX G ?a
      (case a => k_is)
    have k_LETTERS : ∃ t, mg ("LETTERS" : Str) = some (.str ("abcdefghijklmnopqrstuvwxyz" : Str) t) := by as_aux_lemma =>
      refine' gs2 KX G ?a
      (case a => k_is)
    have k_GLOBAL : ∃ t, mg ("GLOBAL" : Str) = some (.str ("global" : Str) t) := by as_aux_lemma =>
      refine' gs2 KX G ?a
      (case a => k_is)
    have k_DEEP : ∃ t, mg ("DEEP" : Str) = some (.str ("deep" : Str) t) := by as_aux_lemma =>
      refine' gs2 KX G ?a
      (case a => k_is)
    have k_OPEN : ∃ t, mg ("OPEN" : Str) = some (.str ("open" : Str) t) := by as_aux_lemma =>
      refine' gs2 KX G ?a
      (case a => k_is)
    have k_CLOSE : ∃ t, mg ("CLOSE" : Str) = some (.str ("close" : Str) t) := by as_aux_lemma =>
      refine' gs2 KX G ?a
      (case a => k_is)
    have k_CALL : ∃ t, mg ("CALL" : Str) = some (.str ("call" : Str) t) := by as_aux_lemma =>
      refine' gs2 KX G ?a
      (case a => k_is)
    have k_BOUND : ∃ t, mg ("BOUND" : Str) = some (.str ("bound" : Str) t) := by as_aux_lemma =>
      refine' gs2 KX G ?a
      (case a => k_is)
    have k_MOST_LETTERS : ∃ t, mg ("MOST_LETTERS" : Str) = some (.int 8 t) := by as_aux_lemma =>
      refine' gi2 KX G ?a
      (case a => k_is)
    have k_MOST : ∃ t, mg ("MOST" : Str) = some (.int 2 t) := by as_aux_lemma =>
      refine' gi2 KX G ?a
      (case a => k_is)
    have k_OPENED : TupS (head.heap_39 w.params) mg "OPENED" "opened" := by as_aux_lemma =>
      refine' gt2 KX G ?a ?l
      (case a => k_is)
      (case l => k_is)
    have k_CLOSED : TupS (head.heap_39 w.params) mg "CLOSED" "closed" := by as_aux_lemma =>
      refine' gt2 KX G ?a ?l
      (case a => k_is)
      (case l => k_is)
    have k_FULL : TupS (head.heap_39 w.params) mg "FULL" "full" := by as_aux_lemma =>
      refine' gt2 KX G ?a ?l
      (case a => k_is)
      (case l => k_is)
    have k_SHUT : TupS (head.heap_39 w.params) mg "SHUT" "shut" := by as_aux_lemma =>
      refine' gt2 KX G ?a ?l
      (case a => k_is)
      (case l => k_is)
    have k_NOBODY : TupS (head.heap_39 w.params) mg "NOBODY" "nobody" := by as_aux_lemma =>
      refine' gt2 KX G ?a ?l
      (case a => k_is)
      (case l => k_is)
    have k_LOST : TupS (head.heap_39 w.params) mg "LOST" "lost" := by as_aux_lemma =>
      refine' gt2 KX G ?a ?l
      (case a => k_is)
      (case l => k_is)
    have k_TORN : TupS (head.heap_39 w.params) mg "TORN" "torn" := by as_aux_lemma =>
      refine' gt2 KX G ?a ?l
      (case a => k_is)
      (case l => k_is)
    have gP : mg ("Process" : Str) = some (.ref 382) := by as_aux_lemma =>
      refine' cg2 KX G ?a
      (case a => k_is)
    have clP : Cls (head.heap_39 w.params) 382 := by as_aux_lemma =>
      refine' cls2 gP ?pg ?hd ?po ?sa
      (case pg => k_is)
      (case hd => k_is)
      (case po => k_is)
      (case sa => k_is)
    have gG : mg ("Ground" : Str) = some (.ref 198) := by as_aux_lemma =>
      refine' cg2 KX G ?a
      (case a => k_is)
    have clG : Cls (head.heap_39 w.params) 198 := by as_aux_lemma =>
      refine' cls2 gG ?pg ?hd ?po ?sa
      (case pg => k_is)
      (case hd => k_is)
      (case po => k_is)
      (case sa => k_is)
    have gT : mg ("Trial" : Str) = some (.ref 498) := by as_aux_lemma =>
      refine' cg2 KX G ?a
      (case a => k_is)
    have clT : Cls (head.heap_39 w.params) 498 := by as_aux_lemma =>
      refine' cls2 gT ?pg ?hd ?po ?sa
      (case pg => k_is)
      (case hd => k_is)
      (case po => k_is)
      (case sa => k_is)
    have aP_ground : NoAttr (head.heap_39 w.params) 382 ("own_ground" : Str) := by as_aux_lemma =>
      refine' na2 gP ?a
      (case a => k_is)
    have aP_program : NoAttr (head.heap_39 w.params) 382 ("own_program" : Str) := by as_aux_lemma =>
      refine' na2 gP ?a
      (case a => k_is)
    have aP_first : NoAttr (head.heap_39 w.params) 382 ("own_first" : Str) := by as_aux_lemma =>
      refine' na2 gP ?a
      (case a => k_is)
    have aP_rows : NoAttr (head.heap_39 w.params) 382 ("own_rows" : Str) := by as_aux_lemma =>
      refine' na2 gP ?a
      (case a => k_is)
    have aP_counts : NoAttr (head.heap_39 w.params) 382 ("own_counts" : Str) := by as_aux_lemma =>
      refine' na2 gP ?a
      (case a => k_is)
    have aP_opened : NoAttr (head.heap_39 w.params) 382 ("own_opened" : Str) := by as_aux_lemma =>
      refine' na2 gP ?a
      (case a => k_is)
    have aP_public : NoAttr (head.heap_39 w.params) 382 ("own_public" : Str) := by as_aux_lemma =>
      refine' na2 gP ?a
      (case a => k_is)
    have aP_deep : NoAttr (head.heap_39 w.params) 382 ("own_deep" : Str) := by as_aux_lemma =>
      refine' na2 gP ?a
      (case a => k_is)
    have aP_slots : NoAttr (head.heap_39 w.params) 382 ("own_slots" : Str) := by as_aux_lemma =>
      refine' na2 gP ?a
      (case a => k_is)
    have aP_here : NoAttr (head.heap_39 w.params) 382 ("own_here" : Str) := by as_aux_lemma =>
      refine' na2 gP ?a
      (case a => k_is)
    have aG_program : NoAttr (head.heap_39 w.params) 198 ("own_program" : Str) := by as_aux_lemma =>
      refine' na2 gG ?a
      (case a => k_is)
    have aG_first : NoAttr (head.heap_39 w.params) 198 ("own_first" : Str) := by as_aux_lemma =>
      refine' na2 gG ?a
      (case a => k_is)
    have aG_rows : NoAttr (head.heap_39 w.params) 198 ("own_rows" : Str) := by as_aux_lemma =>
      refine' na2 gG ?a
      (case a => k_is)
    have aT_program : NoAttr (head.heap_39 w.params) 498 ("own_program" : Str) := by as_aux_lemma =>
      refine' na2 gT ?a
      (case a => k_is)
    have aT_walked : NoAttr (head.heap_39 w.params) 498 ("own_walked" : Str) := by as_aux_lemma =>
      refine' na2 gT ?a
      (case a => k_is)
    have ig : IsG (head.heap_39 w.params) 198 := by as_aux_lemma =>
      refine' isg2 gG ?t ?ha ?hn ?htk ?hm
      (case t => kit_is)
      (case ha => k_is)
      (case hn => k_is)
      (case htk => k_is)
      (case hm => k_is)
    have iP : IF (head.heap_39 w.params) 382 "Process.__init__" (inClass (top 37) 0) ["self", "program"] := by as_aux_lemma =>
      refine' if2 gP b_Process_init ?mk ?a ?i ?kc ?l ?c ?kp
      (case mk => k_is)
      (case a => k_is)
      (case i => k_is)
      (case kc => k_is)
      (case l => k_is)
      (case c => k_is)
      (case kp => k_is)
    have iG : IF (head.heap_39 w.params) 198 "Ground.__init__" (inClass (top 36) 0) ["self", "program"] := by as_aux_lemma =>
      refine' if2 gG b_Ground_init ?mk ?a ?i ?kc ?l ?c ?kp
      (case mk => k_is)
      (case a => k_is)
      (case i => k_is)
      (case kc => k_is)
      (case l => k_is)
      (case c => k_is)
      (case kp => k_is)
    have iT : IF (head.heap_39 w.params) 498 "Trial.__init__" (inClass (top 51) 0) ["self", "program"] := by as_aux_lemma =>
      refine' if2 gT b_Trial_init ?mk ?a ?i ?kc ?l ?c ?kp
      (case mk => k_is)
      (case a => k_is)
      (case i => k_is)
      (case kc => k_is)
      (case l => k_is)
      (case c => k_is)
      (case kp => k_is)
    have d_walk : DD (head.heap_39 w.params) mg "walk" (top 40) ["program", "doors"] := by as_aux_lemma =>
      refine' dd_walk KX G ?a ?l ?l2 ?c ?kp
      (case a => k_is)
      (case l => k_is)
      (case l2 => k_is)
      (case c => k_is)
      (case kp => k_is)
    have d_serves : DF (head.heap_39 w.params) mg "serves" (top 24) ["definition", "use"] := by as_aux_lemma =>
      refine' DF.mk' KX G b_serves ?a ?l ?c ?kp
      (case a => k_is)
      (case l => k_is)
      (case c => k_is)
      (case kp => k_is)
    have d_version_of : DF (head.heap_39 w.params) mg "version_of" (top 25) ["lib", "use"] := by as_aux_lemma =>
      refine' DF.mk' KX G b_version_of ?a ?l ?c ?kp
      (case a => k_is)
      (case l => k_is)
      (case c => k_is)
      (case kp => k_is)
    have d_lib_of : DF (head.heap_39 w.params) mg "lib_of" (top 12) ["program", "name"] := by as_aux_lemma =>
      refine' DF.mk' KX G b_lib_of ?a ?l ?c ?kp
      (case a => k_is)
      (case l => k_is)
      (case c => k_is)
      (case kp => k_is)
    have d_lib_at : DF (head.heap_39 w.params) mg "lib_at" (top 19) ["program", "name"] := by as_aux_lemma =>
      refine' DF.mk' KX G b_lib_at ?a ?l ?c ?kp
      (case a => k_is)
      (case l => k_is)
      (case c => k_is)
      (case kp => k_is)
    have d_use_at : DF (head.heap_39 w.params) mg "use_at" (top 20) ["program", "name", "number"] := by as_aux_lemma =>
      refine' DF.mk' KX G b_use_at ?a ?l ?c ?kp
      (case a => k_is)
      (case l => k_is)
      (case c => k_is)
      (case kp => k_is)
    have d_main_of : DF (head.heap_39 w.params) mg "main_of" (top 45) ["program"] := by as_aux_lemma =>
      refine' DF.mk' KX G b_main_of ?a ?l ?c ?kp
      (case a => k_is)
      (case l => k_is)
      (case c => k_is)
      (case kp => k_is)
    have d_as_tuples : DF (head.heap_39 w.params) mg "as_tuples" (top 9) ["thing"] := by as_aux_lemma =>
      refine' DF.mk' KX G b_as_tuples ?a ?l ?c ?kp
      (case a => k_is)
      (case l => k_is)
      (case c => k_is)
      (case kp => k_is)
    have d_row : DF (head.heap_39 w.params) mg "row" (top 21) ["program", "names"] := by as_aux_lemma =>
      refine' DF.mk' KX G b_row ?a ?l ?c ?kp
      (case a => k_is)
      (case l => k_is)
      (case c => k_is)
      (case kp => k_is)
    have d_first_row : DF (head.heap_39 w.params) mg "first_row" (top 22) ["program"] := by as_aux_lemma =>
      refine' DF.mk' KX G b_first_row ?a ?l ?c ?kp
      (case a => k_is)
      (case l => k_is)
      (case c => k_is)
      (case kp => k_is)
    have d_door_row : DF (head.heap_39 w.params) mg "door_row" (top 23) ["program", "number"] := by as_aux_lemma =>
      refine' DF.mk' KX G b_door_row ?a ?l ?c ?kp
      (case a => k_is)
      (case l => k_is)
      (case c => k_is)
      (case kp => k_is)
    have d_others_of : DF (head.heap_39 w.params) mg "others_of" (top 46) ["program"] := by as_aux_lemma =>
      refine' DF.mk' KX G b_others_of ?a ?l ?c ?kp
      (case a => k_is)
      (case l => k_is)
      (case c => k_is)
      (case kp => k_is)
    have d_with_preload : DF (head.heap_39 w.params) mg "with_preload" (top 47) ["program", "preload"] := by as_aux_lemma =>
      refine' DF.mk' KX G b_with_preload ?a ?l ?c ?kp
      (case a => k_is)
      (case l => k_is)
      (case c => k_is)
      (case kp => k_is)
    have d_server : DF (head.heap_39 w.params) mg "server" (top 48) ["program", "line", "use"] := by as_aux_lemma =>
      refine' DF.mk' KX G b_server ?a ?l ?c ?kp
      (case a => k_is)
      (case l => k_is)
      (case c => k_is)
      (case kp => k_is)
    have d_doors_of : DF (head.heap_39 w.params) mg "doors_of" (top 49) ["program", "name"] := by as_aux_lemma =>
      refine' DF.mk' KX G b_doors_of ?a ?l ?c ?kp
      (case a => k_is)
      (case l => k_is)
      (case c => k_is)
      (case kp => k_is)
    have d_is_name : DF (head.heap_39 w.params) mg "is_name" (top 10) ["thing"] := by as_aux_lemma =>
      refine' DF.mk' KX G b_is_name ?a ?l ?c ?kp
      (case a => k_is)
      (case l => k_is)
      (case c => k_is)
      (case kp => k_is)
    have d_are_names : DF (head.heap_39 w.params) mg "are_names" (top 11) ["thing"] := by as_aux_lemma =>
      refine' DF.mk' KX G b_are_names ?a ?l ?c ?kp
      (case a => k_is)
      (case l => k_is)
      (case c => k_is)
      (case kp => k_is)
    have d_is_preload : DF (head.heap_39 w.params) mg "is_preload" (top 53) ["program", "thing"] := by as_aux_lemma =>
      refine' DF.mk' KX G b_is_preload ?a ?l ?c ?kp
      (case a => k_is)
      (case l => k_is)
      (case c => k_is)
      (case kp => k_is)
    have d_looked : DF (head.heap_39 w.params) mg "looked" (top 52) ["program", "wanted"] := by as_aux_lemma =>
      refine' DF.mk' KX G b_looked ?a ?l ?c ?kp
      (case a => k_is)
      (case l => k_is)
      (case c => k_is)
      (case kp => k_is)
    have d_rows_of_names : DF (head.heap_39 w.params) mg "rows_of_names" (top 55) ["names", "many"] := by as_aux_lemma =>
      refine' DF.mk' KX G b_rows_of_names ?a ?l ?c ?kp
      (case a => k_is)
      (case l => k_is)
      (case c => k_is)
      (case kp => k_is)
    have d_names_in : DF (head.heap_39 w.params) mg "names_in" (top 56) ["program", "wanted"] := by as_aux_lemma =>
      refine' DF.mk' KX G b_names_in ?a ?l ?c ?kp
      (case a => k_is)
      (case l => k_is)
      (case c => k_is)
      (case kp => k_is)
    have d_rows_to_public : DF (head.heap_39 w.params) mg "rows_to_public" (top 50) ["program"] := by as_aux_lemma =>
      refine' DF.mk' KX G b_rows_to_public ?a ?l ?c ?kp
      (case a => k_is)
      (case l => k_is)
      (case c => k_is)
      (case kp => k_is)
    have d_next_steps : DF (head.heap_39 w.params) mg "next_steps" (top 39) ["process", "doors"] := by as_aux_lemma =>
      refine' DF.mk' KX G b_next_steps ?a ?l ?c ?kp
      (case a => k_is)
      (case l => k_is)
      (case c => k_is)
      (case kp => k_is)
    have d_first_runs : DF (head.heap_39 w.params) mg "first_runs" (top 42) ["moments", "name", "i"] := by as_aux_lemma =>
      refine' DF.mk' KX G b_first_runs ?a ?l ?c ?kp
      (case a => k_is)
      (case l => k_is)
      (case c => k_is)
      (case kp => k_is)
    have d_bindings : DF (head.heap_39 w.params) mg "bindings" (top 43) ["program", "name", "i"] := by as_aux_lemma =>
      refine' DF.mk' KX G b_bindings ?a ?l ?c ?kp
      (case a => k_is)
      (case l => k_is)
      (case c => k_is)
      (case kp => k_is)
    have d_many_preloads : DF (head.heap_39 w.params) mg "many_preloads" (top 58) ["program", "wanted", "many"] := by as_aux_lemma =>
      refine' DF.mk' KX G b_many_preloads ?a ?l ?c ?kp
      (case a => k_is)
      (case l => k_is)
      (case c => k_is)
      (case kp => k_is)
    have d_least_preload : DF (head.heap_39 w.params) mg "least_preload" (top 57) ["program", "wanted"] := by as_aux_lemma =>
      refine' DF.mk' KX G b_least_preload ?a ?l ?c ?kp
      (case a => k_is)
      (case l => k_is)
      (case c => k_is)
      (case kp => k_is)
    have d_shows_preload : DF (head.heap_39 w.params) mg "shows_preload" (top 54) ["program", "wanted", "thing"] := by as_aux_lemma =>
      refine' DF.mk' KX G b_shows_preload ?a ?l ?c ?kp
      (case a => k_is)
      (case l => k_is)
      (case c => k_is)
      (case kp => k_is)
    have d_law_take : DF (head.heap_39 w.params) mg "_law_take" (top 61) ["_law_box_here", "_law_below"] := by as_aux_lemma =>
      refine' DF.mk' KX G b_law_take ?a ?l ?c ?kp
      (case a => k_is)
      (case l => k_is)
      (case c => k_is)
      (case kp => k_is)
    have d_law_of : DF (head.heap_39 w.params) mg "_law_of" (top 62) ["_law_box_here", "_law_some"] := by as_aux_lemma =>
      refine' DF.mk' KX G b_law_of ?a ?l ?c ?kp
      (case a => k_is)
      (case l => k_is)
      (case c => k_is)
      (case kp => k_is)
    have d_law_picked : DF (head.heap_39 w.params) mg "_law_picked" (top 63) ["_law_box_here", "_law_pool", "_law_most"] := by as_aux_lemma =>
      refine' DF.mk' KX G b_law_picked ?a ?l ?c ?kp
      (case a => k_is)
      (case l => k_is)
      (case c => k_is)
      (case kp => k_is)
    have d_law_lib : DF (head.heap_39 w.params) mg "_law_lib" (top 65) ["_law_prog", "_law_who"] := by as_aux_lemma =>
      refine' DF.mk' KX G b_law_lib ?a ?l ?c ?kp
      (case a => k_is)
      (case l => k_is)
      (case c => k_is)
      (case kp => k_is)
    have d_law_gives : DF (head.heap_39 w.params) mg "_law_gives" (top 66) ["_law_prog", "_law_who", "_law_use"] := by as_aux_lemma =>
      refine' DF.mk' KX G b_law_gives ?a ?l ?c ?kp
      (case a => k_is)
      (case l => k_is)
      (case c => k_is)
      (case kp => k_is)
    have d_law_calls : DF (head.heap_39 w.params) mg "_law_calls" (top 67) ["_law_prog"] := by as_aux_lemma =>
      refine' DF.mk' KX G b_law_calls ?a ?l ?c ?kp
      (case a => k_is)
      (case l => k_is)
      (case c => k_is)
      (case kp => k_is)
    have d_law_rows : DF (head.heap_39 w.params) mg "_law_rows" (top 70) ["_law_pool", "_law_size"] := by as_aux_lemma =>
      refine' DF.mk' KX G b_law_rows ?a ?l ?c ?kp
      (case a => k_is)
      (case l => k_is)
      (case c => k_is)
      (case kp => k_is)
    have d_law_others : DF (head.heap_39 w.params) mg "_law_others" (top 71) ["_law_prog"] := by as_aux_lemma =>
      refine' DF.mk' KX G b_law_others ?a ?l ?c ?kp
      (case a => k_is)
      (case l => k_is)
      (case c => k_is)
      (case kp => k_is)
    have d_law_prog_right : DF (head.heap_39 w.params) mg "_law_prog_right" (top 72) ["_law_prog", "_law_wishes_here"] := by as_aux_lemma =>
      refine' DF.mk' KX G b_law_prog_right ?a ?l ?c ?kp
      (case a => k_is)
      (case l => k_is)
      (case c => k_is)
      (case kp => k_is)
    have d_law_program : DF (head.heap_39 w.params) mg "_law_program" (top 64) ["_law_box_here", "_law_most", "_law_doors_so"] := by as_aux_lemma =>
      refine' DF.mk' KX G b_law_program ?a ?l ?c ?kp
      (case a => k_is)
      (case l => k_is)
      (case c => k_is)
      (case kp => k_is)
    have d_law_wish : DF (head.heap_39 w.params) mg "_law_wish" (top 68) ["_law_box_here", "_law_prog"] := by as_aux_lemma =>
      refine' DF.mk' KX G b_law_wish ?a ?l ?c ?kp
      (case a => k_is)
      (case l => k_is)
      (case c => k_is)
      (case kp => k_is)
    have d_law_wishes : DF (head.heap_39 w.params) mg "_law_wishes" (top 69) ["_law_box_here", "_law_prog", "_law_most"] := by as_aux_lemma =>
      refine' DF.mk' KX G b_law_wishes ?a ?l ?c ?kp
      (case a => k_is)
      (case l => k_is)
      (case c => k_is)
      (case kp => k_is)
    have d_law_box : DF (head.heap_39 w.params) mg "_law_box" (top 60) ["_law_script", "_law_k"] := by as_aux_lemma =>
      refine' DF.mk' KX G b_law_box ?a ?l ?c ?kp
      (case a => k_is)
      (case l => k_is)
      (case c => k_is)
      (case kp => k_is)
    have d_law_right : DF (head.heap_39 w.params) mg "_law_right" (top 73) ["_law_box_here"] := by as_aux_lemma =>
      refine' DF.mk' KX G b_law_right ?a ?l ?c ?kp
      (case a => k_is)
      (case l => k_is)
      (case c => k_is)
      (case kp => k_is)
    have d_law : DF (head.heap_39 w.params) mg "law" (top 74) ["_law_script"] := by as_aux_lemma =>
      refine' DF.mk' KX G b_law ?a ?l ?c ?kp
      (case a => k_is)
      (case l => k_is)
      (case c => k_is)
      (case kp => k_is)
    have m_is_there : MF (head.heap_39 w.params) 382 "is_there" "Process.is_there" (inClass (top 37) 5) ["self", "name"] := by as_aux_lemma =>
      refine' mf2 gP b_is_there ?a ?i ?l ?c ?kp
      (case a => k_is)
      (case i => k_is)
      (case l => k_is)
      (case c => k_is)
      (case kp => k_is)
    have m_look_there : MF (head.heap_39 w.params) 382 "look_there" "Process.look_there" (inClass (top 37) 9) ["self", "name"] := by as_aux_lemma =>
      refine' mf2 gP b_look_there ?a ?i ?l ?c ?kp
      (case a => k_is)
      (case i => k_is)
      (case l => k_is)
      (case c => k_is)
      (case kp => k_is)
    have m_counts : MF (head.heap_39 w.params) 382 "counts" "Process.counts" (inClass (top 37) 3) ["self"] := by as_aux_lemma =>
      refine' mf2 gP b_counts ?a ?i ?l ?c ?kp
      (case a => k_is)
      (case i => k_is)
      (case l => k_is)
      (case c => k_is)
      (case kp => k_is)
    have m_opened : MF (head.heap_39 w.params) 382 "opened" "Process.opened" (inClass (top 37) 4) ["self"] := by as_aux_lemma =>
      refine' mf2 gP b_opened ?a ?i ?l ?c ?kp
      (case a => k_is)
      (case i => k_is)
      (case l => k_is)
      (case c => k_is)
      (case kp => k_is)
    have m_deep : MF (head.heap_39 w.params) 382 "deep" "Process.deep" (inClass (top 37) 8) ["self"] := by as_aux_lemma =>
      refine' mf2 gP b_deep ?a ?i ?l ?c ?kp
      (case a => k_is)
      (case i => k_is)
      (case l => k_is)
      (case c => k_is)
      (case kp => k_is)
    have m_base : MF (head.heap_39 w.params) 382 "base" "Process.base" (inClass (top 37) 12) ["self"] := by as_aux_lemma =>
      refine' mf2 gP b_base ?a ?i ?l ?c ?kp
      (case a => k_is)
      (case i => k_is)
      (case l => k_is)
      (case c => k_is)
      (case kp => k_is)
    have m_look_door : MF (head.heap_39 w.params) 382 "look_door" "Process.look_door" (inClass (top 37) 14) ["self", "k"] := by as_aux_lemma =>
      refine' mf2 gP b_look_door ?a ?i ?l ?c ?kp
      (case a => k_is)
      (case i => k_is)
      (case l => k_is)
      (case c => k_is)
      (case kp => k_is)
    have m_looks : MF (head.heap_39 w.params) 382 "looks" "Process.looks" (inClass (top 37) 10) ["self", "name"] := by as_aux_lemma =>
      refine' mf2 gP b_looks ?a ?i ?l ?c ?kp
      (case a => k_is)
      (case i => k_is)
      (case l => k_is)
      (case c => k_is)
      (case kp => k_is)
    have m_found : MF (head.heap_39 w.params) 382 "found" "Process.found" (inClass (top 37) 20) ["self", "name", "i"] := by as_aux_lemma =>
      refine' mf2 gP b_found ?a ?i ?l ?c ?kp
      (case a => k_is)
      (case i => k_is)
      (case l => k_is)
      (case c => k_is)
      (case kp => k_is)
    have m_all_here : MF (head.heap_39 w.params) 382 "all_here" "Process.all_here" (inClass (top 37) 1) ["self"] := by as_aux_lemma =>
      refine' mf2 gP b_all_here ?a ?i ?l ?c ?kp
      (case a => k_is)
      (case i => k_is)
      (case l => k_is)
      (case c => k_is)
      (case kp => k_is)
    have m_twin : MF (head.heap_39 w.params) 382 "twin" "Process.twin" (inClass (top 37) 2) ["self"] := by as_aux_lemma =>
      refine' mf2 gP b_twin ?a ?i ?l ?c ?kp
      (case a => k_is)
      (case i => k_is)
      (case l => k_is)
      (case c => k_is)
      (case kp => k_is)
    have m_go : MF (head.heap_39 w.params) 382 "go" "Process.go" (inClass (top 37) 18) ["self"] := by as_aux_lemma =>
      refine' mf2 gP b_go ?a ?i ?l ?c ?kp
      (case a => k_is)
      (case i => k_is)
      (case l => k_is)
      (case c => k_is)
      (case kp => k_is)
    have m_come : MF (head.heap_39 w.params) 382 "come" "Process.come" (inClass (top 37) 16) ["self", "k"] := by as_aux_lemma =>
      refine' mf2 gP b_come ?a ?i ?l ?c ?kp
      (case a => k_is)
      (case i => k_is)
      (case l => k_is)
      (case c => k_is)
      (case kp => k_is)
    have m_open_door : MF (head.heap_39 w.params) 382 "open_door" "Process.open_door" (inClass (top 37) 15) ["self", "k"] := by as_aux_lemma =>
      refine' mf2 gP b_open_door ?a ?i ?l ?c ?kp
      (case a => k_is)
      (case i => k_is)
      (case l => k_is)
      (case c => k_is)
      (case kp => k_is)
    have m_close_door : MF (head.heap_39 w.params) 382 "close_door" "Process.close_door" (inClass (top 37) 17) ["self", "k"] := by as_aux_lemma =>
      refine' mf2 gP b_close_door ?a ?i ?l ?c ?kp
      (case a => k_is)
      (case i => k_is)
      (case l => k_is)
      (case c => k_is)
      (case kp => k_is)
    have m_do : MF (head.heap_39 w.params) 382 "do" "Process.do" (inClass (top 37) 22) ["self", "step"] := by as_aux_lemma =>
      refine' mf2 gP b_do ?a ?i ?l ?c ?kp
      (case a => k_is)
      (case i => k_is)
      (case l => k_is)
      (case c => k_is)
      (case kp => k_is)
    have m_told_alone : MF (head.heap_39 w.params) 498 "told_alone" "Trial.told_alone" (inClass (top 51) 2) ["self", "name", "i"] := by as_aux_lemma =>
      refine' mf2 gT b_told_alone ?a ?i ?l ?c ?kp
      (case a => k_is)
      (case i => k_is)
      (case l => k_is)
      (case c => k_is)
      (case kp => k_is)
    have m_told_inside : MF (head.heap_39 w.params) 498 "told_inside" "Trial.told_inside" (inClass (top 51) 1) ["self", "first", "use"] := by as_aux_lemma =>
      refine' mf2 gT b_told_inside ?a ?i ?l ?c ?kp
      (case a => k_is)
      (case i => k_is)
      (case l => k_is)
      (case c => k_is)
      (case kp => k_is)
    have m_told_outside : MF (head.heap_39 w.params) 498 "told_outside" "Trial.told_outside" (inClass (top 51) 3) ["self", "first", "name", "i", "use"] := by as_aux_lemma =>
      refine' mf2 gT b_told_outside ?a ?i ?l ?c ?kp
      (case a => k_is)
      (case i => k_is)
      (case l => k_is)
      (case c => k_is)
      (case kp => k_is)
    have m_gives : MF (head.heap_39 w.params) 498 "gives" "Trial.gives" (inClass (top 51) 4) ["self", "preload", "want"] := by as_aux_lemma =>
      refine' mf2 gT b_gives ?a ?i ?l ?c ?kp
      (case a => k_is)
      (case i => k_is)
      (case l => k_is)
      (case c => k_is)
      (case kp => k_is)
    have m_Trial_gives_all : MF (head.heap_39 w.params) 498 "gives_all" "Trial.gives_all" (inClass (top 51) 5) ["self", "preload", "wanted"] := by as_aux_lemma =>
      refine' mf2 gT b_Trial_gives_all ?a ?i ?l ?c ?kp
      (case a => k_is)
      (case i => k_is)
      (case l => k_is)
      (case c => k_is)
      (case kp => k_is)
    have m_Trial_is_possible : MF (head.heap_39 w.params) 498 "is_possible" "Trial.is_possible" (inClass (top 51) 6) ["self", "wanted"] := by as_aux_lemma =>
      refine' mf2 gT b_Trial_is_possible ?a ?i ?l ?c ?kp
      (case a => k_is)
      (case i => k_is)
      (case l => k_is)
      (case c => k_is)
      (case kp => k_is)
    exact ⟨_, _, _, n_len, n_list, n_tuple, n_all, n_any, n_sum, n_sorted, n_min, n_range, n_isinstance, n_str, n_set, n_enumerate, n_dict, n_abs, n_int, k_LETTERS, k_GLOBAL, k_DEEP, k_OPEN, k_CLOSE, k_CALL, k_BOUND, k_MOST_LETTERS, k_MOST, k_OPENED, k_CLOSED, k_FULL, k_SHUT, k_NOBODY, k_LOST, k_TORN, gP, clP, gG, clG, gT, clT, aP_ground, aP_program, aP_first, aP_rows, aP_counts, aP_opened, aP_public, aP_deep, aP_slots, aP_here, aG_program, aG_first, aG_rows, aT_program, aT_walked, ig, iP, iG, iT, d_walk, d_serves, d_version_of, d_lib_of, d_lib_at, d_use_at, d_main_of, d_as_tuples, d_row, d_first_row, d_door_row, d_others_of, d_with_preload, d_server, d_doors_of, d_is_name, d_are_names, d_is_preload, d_looked, d_rows_of_names, d_names_in, d_rows_to_public, d_next_steps, d_first_runs, d_bindings, d_many_preloads, d_least_preload, d_shows_preload, d_law_take, d_law_of, d_law_picked, d_law_lib, d_law_gives, d_law_calls, d_law_rows, d_law_others, d_law_prog_right, d_law_program, d_law_wish, d_law_wishes, d_law_box, d_law_right, d_law, m_is_there, m_look_there, m_counts, m_opened, m_deep, m_base, m_look_door, m_looks, m_found, m_all_here, m_twin, m_go, m_come, m_open_door, m_close_door, m_do, m_told_alone, m_told_inside, m_told_outside, m_gives, m_Trial_gives_all, m_Trial_is_possible⟩
end
end K74

set_option Elab.async false
set_option maxHeartbeats 4000000
/-! K74.KM1: the mirrors of the program's functions as plain functions, and the plain law. -/
namespace K74
open PySem

abbrev S := PySem.Str

structure LibD where
  name : S
  needs : List S
  defs : List (S × S)
  uses : List (S × S × Bool)

structure ProgD where
  libs : List LibD
  pre : List S
  doors : List (S × S)

abbrev Ans := List S
abbrev UseD := S × S × Bool

structure WantD where
  who : S
  i : Nat
  ans : Ans

def ltS (a b : S) : Bool := decide (a.cps.toList < b.cps.toList)

def sE : S := ""
def sMain : S := "main"
def sBound : S := "bound"
def sNobody : S := "nobody"
def sLost : S := "lost"
def sGlobal : S := "global"
def sDeep : S := "deep"

def names (P : ProgD) : List S := P.libs.map (·.name)
def libOf (P : ProgD) (n : S) : Option LibD := (P.libs.filter fun l => decide (l.name = n)).head?
def needsOf (P : ProgD) (n : S) : List S := match libOf P n with
  | some l => l.needs
  | none => []
def add1 (f : List S) (x : S) : List S := if x ∈ f then f else f ++ [x]
def addNew (f xs : List S) : List S := xs.foldl add1 f
def rowGo (P : ProgD) : Nat → List S → Nat → List S
  | 0, found, _ => found
  | k + 1, found, i => match found[i]? with
    | none => found
    | some n => rowGo P k (addNew found (needsOf P n)) (i + 1)
def rowM (P : ProgD) (ns : List S) : List S := rowGo P P.libs.length (addNew [] ns) 0

def servesM (d : S × S) (u : UseD) : Bool := decide (d.1 = u.1) && (decide (d.2 = u.2.1) || (decide (d.2 = sE) || decide (u.2.1 = sE)))
def minS : List S → S
  | [] => sE
  | x :: r => r.foldl (fun m y => if ltS y m then y else m) x
def someV (l : LibD) (u : UseD) : List S := (l.defs.filter fun d => servesM d u).map (·.2)
def versionM (l : LibD) (u : UseD) : Option S :=
  if (someV l u).length = 0 then none else some (if u.2.1 ∈ someV l u then u.2.1 else minS (someV l u))
def ansOf (P : ProgD) (u : UseD) (n : S) : Option Ans := match libOf P n with
  | some l => match versionM l u with
    | some v => some [sBound, n, v]
    | none => none
  | none => none
def server (P : ProgD) (line : List S) (u : UseD) : Option Ans := line.findSome? (ansOf P u)
def doorRow (P : ProgD) (k : Nat) : List S := match P.doors[k]? with
  | some d => rowM P [d.1]
  | none => []
def doorsOf (P : ProgD) (n : S) : List Nat := (List.range P.doors.length).filter fun k => decide (n ∈ doorRow P k)
def modeOf (P : ProgD) (k : Nat) : S := match P.doors[k]? with
  | some d => d.2
  | none => sE
def globals (P : ProgD) : List Nat := (List.range P.doors.length).filter fun k => decide (modeOf P k = sGlobal)
def rowsToPublic (P : ProgD) : List S := (globals P).flatMap (doorRow P)
def noAns (u : UseD) : Ans := if u.2.2 then [sNobody] else [sLost]
def inside (P : ProgD) (first : List S) (u : UseD) : List Ans := match server P first u with
  | some a => [a]
  | none => noAns u :: (match server P (rowsToPublic P) u with
    | some a => [a]
    | none => [])
def outside (P : ProgD) (alone : S → Nat → List Ans) (first : List S) (n : S) (i : Nat) (u : UseD) : List Ans := match server P first u with
  | none => alone n i
  | some early =>
    (((doorsOf P n).map (modeOf P)).filter fun m => decide (m ≠ sDeep)).map (fun _ => early) ++
      (if sDeep ∈ (doorsOf P n).map (modeOf P) then (doorsOf P n).map (fun k => (server P (doorRow P k) u).getD early) else [])
def mainOf (P : ProgD) : S := match P.libs with
  | l :: _ => l.name
  | [] => sE
def useAt (P : ProgD) (n : S) (i : Nat) : UseD := match libOf P n with
  | some l => l.uses.getD i (sE, sE, false)
  | none => (sE, sE, false)
def told (P : ProgD) (alone : S → Nat → List Ans) (pre : List S) (n : S) (i : Nat) : List Ans :=
  if n ∈ rowM P (mainOf P :: pre) then inside P (rowM P (mainOf P :: pre)) (useAt P n i)
  else outside P alone (rowM P (mainOf P :: pre)) n i (useAt P n i)
def gives (P : ProgD) (alone : S → Nat → List Ans) (pre : List S) (w : WantD) : Bool :=
  (told P alone pre w.who w.i).all fun a => decide (a = w.ans)
def givesAll (P : ProgD) (alone : S → Nat → List Ans) (pre : List S) (ws : List WantD) : Bool := ws.all (gives P alone pre)

/-- what a program has that is drawn -/
structure WF (P : ProgD) : Prop where
  nd : (names P).Nodup
  ne : P.libs ≠ []
  needs : ∀ l ∈ P.libs, ∀ n ∈ l.needs, n ∈ names P
  doors : ∀ d ∈ P.doors, d.1 ∈ names P

/-! ### rows -/
section
variable {P : ProgD}
theorem libOf_some {n : S} (h : n ∈ names P) : ∃ l, libOf P n = some l ∧ l ∈ P.libs ∧ l.name = n := by
  unfold names at h
  obtain ⟨l, hl, e⟩ := List.mem_map.mp h
  unfold libOf
  have hm : l ∈ P.libs.filter fun l => decide (l.name = n) := List.mem_filter.mpr ⟨hl, decide_eq_true e⟩
  cases q : P.libs.filter fun l => decide (l.name = n) with
  | nil => rw [q] at hm; cases hm
  | cons a r =>
    have ha : a ∈ P.libs.filter fun l => decide (l.name = n) := by rw [q]; exact List.mem_cons_self
    obtain ⟨h1, h2⟩ := List.mem_filter.mp ha
    exact ⟨a, rfl, h1, of_decide_eq_true h2⟩
theorem needsOf_sub (W : WF P) {n x : S} (h : x ∈ needsOf P n) : x ∈ names P := by
  unfold needsOf at h
  cases q : libOf P n with
  | none => rw [q] at h; cases h
  | some l =>
    rw [q] at h
    have hl : l ∈ P.libs := by
      unfold libOf at q
      exact (List.mem_filter.mp (List.mem_of_mem_head? (by rw [q]; rfl))).1
    exact W.needs l hl x h
theorem add1_mem {f : List S} {x y : S} : y ∈ add1 f x ↔ y ∈ f ∨ y = x := by
  unfold add1
  split
  · rename_i h
    constructor
    · exact Or.inl
    · rintro (h1 | rfl)
      · exact h1
      · exact h
  · simp
theorem add1_nodup {f : List S} {x : S} (h : f.Nodup) : (add1 f x).Nodup := by
  unfold add1
  split
  · exact h
  · rename_i hx
    rw [List.nodup_append]
    refine ⟨h, by simp, ?_⟩
    intro a ha b hb e
    have e2 : b = x := by simpa using hb
    subst e2
    subst e
    exact hx ha
theorem add1_pre (f : List S) (x : S) : ∃ t, add1 f x = f ++ t := by
  unfold add1
  split
  · exact ⟨[], by simp⟩
  · exact ⟨[x], rfl⟩
theorem addNew_mem {xs : List S} : ∀ {f : List S} {y : S}, y ∈ addNew f xs ↔ y ∈ f ∨ y ∈ xs := by
  unfold addNew
  induction xs with
  | nil => intro f y; simp
  | cons x r ih =>
    intro f y
    rw [List.foldl_cons, ih, add1_mem, List.mem_cons]
    constructor
    · rintro ((h | h) | h)
      · exact .inl h
      · exact .inr (.inl h)
      · exact .inr (.inr h)
    · rintro (h | h | h)
      · exact .inl (.inl h)
      · exact .inl (.inr h)
      · exact .inr h
theorem addNew_nodup {xs : List S} : ∀ {f : List S}, f.Nodup → (addNew f xs).Nodup := by
  unfold addNew
  induction xs with
  | nil => intro f h; exact h
  | cons x r ih => intro f h; rw [List.foldl_cons]; exact ih (add1_nodup h)
theorem addNew_pre {xs : List S} : ∀ (f : List S), ∃ t, addNew f xs = f ++ t := by
  unfold addNew
  induction xs with
  | nil => intro f; exact ⟨[], by simp⟩
  | cons x r ih =>
    intro f
    rw [List.foldl_cons]
    obtain ⟨t1, e1⟩ := add1_pre f x
    obtain ⟨t2, e2⟩ := ih (add1 f x)
    exact ⟨t1 ++ t2, by rw [e2, e1, List.append_assoc]⟩
/-- a list without doubles of members of another is not longer -/
theorem nodup_len {l m : List S} (h : l.Nodup) (hs : ∀ x ∈ l, x ∈ m) : l.length ≤ m.length := by
  induction l generalizing m with
  | nil => exact Nat.zero_le _
  | cons a r ih =>
    obtain ⟨ha, hr⟩ := List.nodup_cons.mp h
    have hm : a ∈ m := hs a List.mem_cons_self
    have h1 : r.length ≤ (m.erase a).length := ih hr fun x hx => by
      have ne : x ≠ a := fun e => ha (e ▸ hx)
      exact (List.mem_erase_of_ne ne).mpr (hs x (List.mem_cons_of_mem _ hx))
    have h2 := List.length_erase_of_mem hm
    have h3 : 0 < m.length := List.length_pos_of_mem hm
    rw [List.length_cons]
    omega
theorem rowGo_pre (k : Nat) : ∀ (f : List S) (i : Nat), ∃ t, rowGo P k f i = f ++ t := by
  induction k with
  | zero => intro f i; exact ⟨[], by simp [rowGo]⟩
  | succ k ih =>
    intro f i
    unfold rowGo
    split
    · exact ⟨[], by simp⟩
    · rename_i n _
      obtain ⟨t1, e1⟩ := addNew_pre (xs := needsOf P n) f
      obtain ⟨t2, e2⟩ := ih (addNew f (needsOf P n)) (i + 1)
      exact ⟨t1 ++ t2, by rw [e2, e1, List.append_assoc]⟩
theorem rowGo_nodup (k : Nat) : ∀ (f : List S) (i : Nat), f.Nodup → (rowGo P k f i).Nodup := by
  induction k with
  | zero => intro f i h; exact h
  | succ k ih =>
    intro f i h
    unfold rowGo
    split
    · exact h
    · exact ih _ _ (addNew_nodup h)
/-- what is closed and holds the beginning holds all -/
theorem rowGo_least {T : S → Prop} (hT : ∀ x, T x → ∀ y ∈ needsOf P x, T y) (k : Nat) : ∀ (f : List S) (i : Nat), (∀ x ∈ f, T x) → ∀ x ∈ rowGo P k f i, T x := by
  induction k with
  | zero => intro f i h; exact h
  | succ k ih =>
    intro f i h
    unfold rowGo
    split
    · exact h
    · rename_i n hn
      refine ih _ _ fun x hx => ?_
      rcases addNew_mem.mp hx with h1 | h1
      · exact h x h1
      · exact hT n (h n (List.mem_of_getElem? hn)) x h1
theorem rowGo_closed (W : WF P) (k : Nat) : ∀ (f : List S) (i : Nat), i + k = P.libs.length → f.Nodup → (∀ x ∈ f, x ∈ names P) →
    (∀ (j : Nat) (x : S), j < i → f[j]? = some x → ∀ y ∈ needsOf P x, y ∈ f) → ∀ x ∈ rowGo P k f i, ∀ y ∈ needsOf P x, y ∈ rowGo P k f i := by
  have fin : ∀ (f : List S) (i : Nat), f.length ≤ i → (∀ (j : Nat) (x : S), j < i → f[j]? = some x → ∀ y ∈ needsOf P x, y ∈ f) → ∀ x ∈ f, ∀ y ∈ needsOf P x, y ∈ f := by
    intro f i hl h x hx
    obtain ⟨j, hj⟩ := List.mem_iff_getElem?.mp hx
    have hjl : j < f.length := (List.getElem?_eq_some_iff.mp hj).1
    exact h j x (by omega) hj
  induction k with
  | zero =>
    intro f i e nd sub h
    have hl : f.length ≤ (names P).length := nodup_len nd sub
    rw [names, List.length_map] at hl
    exact fin f i (by omega) h
  | succ k ih =>
    intro f i e nd sub h
    unfold rowGo
    split
    · rename_i hn
      exact fin f i (List.getElem?_eq_none_iff.mp hn) h
    · rename_i n hn
      refine ih _ _ (by omega) (addNew_nodup nd) (fun x hx => ?_) fun j x hj hx y hy => ?_
      · rcases addNew_mem.mp hx with h1 | h1
        · exact sub x h1
        · exact needsOf_sub W h1
      · obtain ⟨t, et⟩ := addNew_pre (xs := needsOf P n) f
        have hil : i < f.length := (List.getElem?_eq_some_iff.mp hn).1
        have hxf : f[j]? = some x := by
          rw [et, List.getElem?_append_left (by omega)] at hx
          exact hx
        by_cases hji : j = i
        · subst hji
          rw [hn] at hxf
          cases hxf
          exact addNew_mem.mpr (.inr hy)
        · exact addNew_mem.mpr (.inl (h j x (by omega) hxf y hy))
theorem row_nodup (ns : List S) : (rowM P ns).Nodup := rowGo_nodup _ _ _ (addNew_nodup List.nodup_nil)
theorem row_has {ns : List S} {x : S} (h : x ∈ ns) : x ∈ rowM P ns := by
  obtain ⟨t, e⟩ := rowGo_pre (P := P) P.libs.length (addNew [] ns) 0
  unfold rowM
  rw [e]
  exact List.mem_append_left _ (addNew_mem.mpr (.inr h))
theorem row_least {ns : List S} {T : S → Prop} (h0 : ∀ x ∈ ns, T x) (hT : ∀ x, T x → ∀ y ∈ needsOf P x, T y) : ∀ x ∈ rowM P ns, T x :=
  rowGo_least hT _ _ _ fun x hx => h0 x ((addNew_mem.mp hx).resolve_left (by simp))
theorem row_names (W : WF P) {ns : List S} (h0 : ∀ x ∈ ns, x ∈ names P) : ∀ x ∈ rowM P ns, x ∈ names P := row_least h0 fun _ _ _ hy => needsOf_sub W hy
theorem row_closed (W : WF P) {ns : List S} (h0 : ∀ x ∈ ns, x ∈ names P) : ∀ x ∈ rowM P ns, ∀ y ∈ needsOf P x, y ∈ rowM P ns :=
  rowGo_closed W _ _ _ (by omega) (addNew_nodup List.nodup_nil) (fun x hx => h0 x ((addNew_mem.mp hx).resolve_left (by simp))) fun j x hj => by omega
theorem row_len (W : WF P) {ns : List S} (h0 : ∀ x ∈ ns, x ∈ names P) : (rowM P ns).length ≤ P.libs.length := by
  have h := nodup_len (row_nodup ns) (row_names W h0)
  rw [names, List.length_map] at h
  exact h
/-- a row begins with its names -/
theorem row_begins {ns : List S} (hn : ns.Nodup) : ∃ t, rowM P ns = ns ++ t := by
  have e : addNew [] ns = ns := by
    have g : ∀ (xs f : List S), (f ++ xs).Nodup → addNew f xs = f ++ xs := by
      intro xs
      induction xs with
      | nil => intro f _; simp [addNew]
      | cons x r ih =>
        intro f h
        have hx : x ∉ f := fun hm => by
          rw [List.nodup_append] at h
          exact h.2.2 x hm x List.mem_cons_self rfl
        show addNew (add1 f x) r = _
        have e1 : add1 f x = f ++ [x] := by unfold add1; rw [if_neg hx]
        rw [e1, ih (f ++ [x]) (by rw [List.append_assoc]; exact h), List.append_assoc]
        rfl
    simpa using g ns [] (by simpa using hn)
  unfold rowM
  rw [e]
  exact rowGo_pre _ _ _
end

/-! ### who serves -/
section
variable {P : ProgD} {u : UseD}
theorem ansOf_shape {n : S} {a : Ans} (h : ansOf P u n = some a) : ∃ v, a = [sBound, n, v] := by
  unfold ansOf at h
  split at h
  · split at h
    · exact ⟨_, (Option.some.inj h).symm⟩
    · cases h
  · cases h
theorem server_append (l m : List S) : server P (l ++ m) u = (server P l u).or (server P m u) := by
  unfold server
  rw [List.findSome?_append]
theorem server_none_iff {l : List S} : server P l u = none ↔ ∀ n ∈ l, ansOf P u n = none := by
  unfold server
  exact List.findSome?_eq_none_iff
theorem server_mem {l : List S} {a : Ans} (h : server P l u = some a) : ∃ n v, n ∈ l ∧ a = [sBound, n, v] ∧ ansOf P u n = some a := by
  unfold server at h
  obtain ⟨n, hn, e⟩ := List.exists_of_findSome?_eq_some h
  obtain ⟨v, ev⟩ := ansOf_shape e
  exact ⟨n, v, hn, ev, e⟩
/-- the first that serves, and none ahead -/
theorem server_split {l : List S} {a : Ans} (h : server P l u = some a) : ∃ l1 n v l2, l = l1 ++ n :: l2 ∧ (∀ x ∈ l1, ansOf P u x = none) ∧ ansOf P u n = some a ∧ a = [sBound, n, v] := by
  induction l with
  | nil => cases h
  | cons x r ih =>
    unfold server at h
    rw [List.findSome?_cons] at h
    cases e : ansOf P u x with
    | some b =>
      rw [e] at h
      cases h
      obtain ⟨v, ev⟩ := ansOf_shape e
      exact ⟨[], x, v, r, rfl, fun _ hx => (by cases hx), e, ev⟩
    | none =>
      rw [e] at h
      obtain ⟨l1, n, v, l2, e1, e2, e3, e4⟩ := ih h
      refine ⟨x :: l1, n, v, l2, by rw [e1]; rfl, fun y hy => ?_, e3, e4⟩
      rcases List.mem_cons.mp hy with rfl | hy
      · exact e
      · exact e2 y hy
theorem server_of_split {l1 l2 : List S} {n : S} {a : Ans} (h1 : ∀ x ∈ l1, ansOf P u x = none) (h : ansOf P u n = some a) : server P (l1 ++ n :: l2) u = some a := by
  rw [server_append, server_none_iff.mpr h1, Option.none_or]
  unfold server
  rw [List.findSome?_cons, h]
theorem server_addNew {l : List S} : ∀ {f : List S}, server P (addNew f l) u = (server P f u).or (server P l u) := by
  induction l with
  | nil =>
    intro f
    show server P f u = (server P f u).or none
    rw [Option.or_none]
  | cons x r ih =>
    intro f
    show server P (addNew (add1 f x) r) u = _
    rw [ih]
    have e : server P (x :: r) u = (server P [x] u).or (server P r u) := server_append (P := P) (u := u) [x] r
    rw [e, ← Option.or_assoc]
    congr 1
    unfold add1
    split
    · rename_i hx
      cases h : server P f u with
      | some a => rfl
      | none =>
        have := server_none_iff.mp h x hx
        have e1 : server P [x] u = none := server_none_iff.mpr fun y hy => by rw [List.mem_singleton.mp hy]; exact this
        rw [e1]
        rfl
    · rw [server_append]
end

/-! ### the plain law -/
def wantNames (ws : List WantD) : List S := ws.map (·.who) ++ (ws.filter fun w => decide (w.ans.head? = some sBound)).map fun w => w.ans.getD 1 sE
/-- those of a line that the wants name -/
def kept (P : ProgD) (ws : List WantD) (line : List S) : List S := line.filter fun n => decide (n ≠ mainOf P ∧ n ∈ wantNames ws)

structure AloneOk (P : ProgD) (alone : S → Nat → List Ans) : Prop where
  deep : ∀ n i a, n ∉ rowM P [mainOf P] → (∀ k ∈ doorsOf P n, modeOf P k = sDeep ∧ server P (doorRow P k) (useAt P n i) = some a) → ∀ b ∈ alone n i, b = a

section
variable {P : ProgD} {alone : S → Nat → List Ans} {pre : List S} {ws : List WantD}
theorem mainOf_mem (W : WF P) : mainOf P ∈ names P := by
  unfold mainOf names
  cases h : P.libs with
  | nil => exact absurd h W.ne
  | cons l r => exact List.mem_cons_self
theorem wantNames_who {w : WantD} (h : w ∈ ws) : w.who ∈ wantNames ws := List.mem_append_left _ (List.mem_map.mpr ⟨w, h, rfl⟩)
theorem wantNames_bound {w : WantD} {n v : S} (h : w ∈ ws) (e : w.ans = [sBound, n, v]) : n ∈ wantNames ws :=
  List.mem_append_right _ (List.mem_map.mpr ⟨w, List.mem_filter.mpr ⟨h, by rw [e]; exact decide_eq_true rfl⟩, by rw [e]; rfl⟩)

theorem kept_law (W : WF P) (A : AloneOk P alone) (hp : ∀ x ∈ pre, x ∈ names P) (h : givesAll P alone pre ws = true) :
    givesAll P alone (kept P ws (rowM P (mainOf P :: pre))) ws = true := by
  have hm := mainOf_mem W
  have hF : ∀ x ∈ mainOf P :: pre, x ∈ names P := fun x hx => by
    rcases List.mem_cons.mp hx with rfl | hx
    · exact hm
    · exact hp x hx
  generalize eF : rowM P (mainOf P :: pre) = F at *
  have Fn : ∀ x ∈ F, x ∈ names P := by rw [← eF]; exact row_names W hF
  have Fc : ∀ x ∈ F, ∀ y ∈ needsOf P x, y ∈ F := by rw [← eF]; exact row_closed W hF
  have Fm : mainOf P ∈ F := by rw [← eF]; exact row_has List.mem_cons_self
  have Fd : F.Nodup := by rw [← eF]; exact row_nodup _
  generalize eK : kept P ws F = Q
  have Qs : ∀ x ∈ Q, x ∈ F ∧ x ≠ mainOf P ∧ x ∈ wantNames ws := fun x hx => by
    rw [← eK] at hx
    obtain ⟨h1, h2⟩ := List.mem_filter.mp hx
    have h3 := of_decide_eq_true h2
    exact ⟨h1, h3.1, h3.2⟩
  have Qi : ∀ x, x ∈ F → x ≠ mainOf P → x ∈ wantNames ws → x ∈ Q := fun x h1 h2 h3 => by
    rw [← eK]
    exact List.mem_filter.mpr ⟨h1, decide_eq_true ⟨h2, h3⟩⟩
  have Qd : Q.Nodup := by rw [← eK]; exact List.Pairwise.sublist List.filter_sublist Fd
  have mQ : (mainOf P :: Q).Nodup := List.nodup_cons.mpr ⟨fun hx => (Qs _ hx).2.1 rfl, Qd⟩
  generalize eG : rowM P (mainOf P :: Q) = G
  have GF : ∀ x ∈ G, x ∈ F := by
    rw [← eG]
    refine row_least (fun x hx => ?_) Fc
    rcases List.mem_cons.mp hx with rfl | hx
    · exact Fm
    · exact (Qs x hx).1
  have Gm : mainOf P ∈ G := by rw [← eG]; exact row_has List.mem_cons_self
  have GQ : ∀ x ∈ Q, x ∈ G := fun x hx => by rw [← eG]; exact row_has (List.mem_cons_of_mem _ hx)
  obtain ⟨tF, bF⟩ : ∃ t, F = mainOf P :: t := by
    obtain ⟨t1, e1⟩ := addNew_pre (xs := pre) [mainOf P]
    obtain ⟨t2, e2⟩ := rowGo_pre (P := P) P.libs.length (addNew [] (mainOf P :: pre)) 0
    have e3 : addNew [] (mainOf P :: pre) = addNew [mainOf P] pre := by
      show addNew (add1 [] (mainOf P)) pre = _
      congr 1
    refine ⟨t1 ++ t2, ?_⟩
    rw [← eF]
    unfold rowM
    rw [e2, e3, e1]
    rfl
  obtain ⟨tG, bG⟩ : ∃ t, G = (mainOf P :: Q) ++ t := by rw [← eG]; exact row_begins mQ
  -- who was found first, and is named, is found first again
  have keep : ∀ (u : UseD) (a : Ans), server P F u = some a → (∀ n v, a = [sBound, n, v] → n ∈ wantNames ws) → server P G u = some a := by
    intro u a hs hn
    obtain ⟨l1, n, v, l2, e1, e2, e3, e4⟩ := server_split hs
    rw [bG]
    by_cases hnm : n = mainOf P
    · subst hnm
      show server P ([] ++ mainOf P :: (Q ++ tG)) u = some a
      exact server_of_split (fun _ hx => by cases hx) e3
    · -- n stands in Q behind those that stood ahead of it in F
      have eQ : Q = (l1.filter fun n => decide (n ≠ mainOf P ∧ n ∈ wantNames ws)) ++ n :: (l2.filter fun n => decide (n ≠ mainOf P ∧ n ∈ wantNames ws)) := by
        rw [← eK]
        unfold kept
        rw [e1, List.filter_append, List.filter_cons, if_pos (decide_eq_true ⟨hnm, hn n v e4⟩)]
      have hl1 : mainOf P ∈ l1 := by
        cases l1 with
        | nil =>
          rw [bF] at e1
          exact absurd (List.cons.inj e1).1.symm hnm
        | cons x r =>
          rw [bF] at e1
          rw [(List.cons.inj e1).1]
          exact List.mem_cons_self
      rw [eQ]
      have e5 : (mainOf P :: ((l1.filter fun n => decide (n ≠ mainOf P ∧ n ∈ wantNames ws)) ++ n :: (l2.filter fun n => decide (n ≠ mainOf P ∧ n ∈ wantNames ws)))) ++ tG =
          (mainOf P :: (l1.filter fun n => decide (n ≠ mainOf P ∧ n ∈ wantNames ws))) ++ n :: ((l2.filter fun n => decide (n ≠ mainOf P ∧ n ∈ wantNames ws)) ++ tG) := by simp
      rw [e5]
      refine server_of_split (fun x hx => ?_) e3
      rcases List.mem_cons.mp hx with rfl | hx
      · exact e2 _ hl1
      · exact e2 x (List.mem_filter.mp hx).1
  have none' : ∀ u, server P F u = none → server P G u = none := fun u hs => server_none_iff.mpr fun n hn => server_none_iff.mp hs n (GF n hn)
  have main1 : ∀ x ∈ rowM P [mainOf P], x ∈ F := row_least (fun x hx => by rw [List.mem_singleton.mp hx]; exact Fm) Fc
  rw [givesAll, List.all_eq_true] at h ⊢
  intro w hw
  have g := h w hw
  unfold gives told at g ⊢
  rw [eF] at g
  rw [eG]
  generalize hu : useAt P w.who w.i = u at g ⊢
  by_cases hwF : w.who ∈ F
  · rw [if_pos hwF] at g
    have hwG : w.who ∈ G := by
      by_cases e : w.who = mainOf P
      · rw [e]; exact Gm
      · exact GQ _ (Qi _ hwF e (wantNames_who hw))
    rw [if_pos hwG]
    unfold inside at g ⊢
    cases hs : server P F u with
    | some a =>
      rw [hs] at g
      have ea : a = w.ans := by simpa using g
      rw [keep u a hs fun n v e => wantNames_bound hw (ea ▸ e)]
      simpa using ea
    | none =>
      rw [hs] at g
      rw [none' u hs]
      exact g
  · rw [if_neg hwF] at g
    have hwG : w.who ∉ G := fun hx => hwF (GF _ hx)
    rw [if_neg hwG]
    have hw1 : w.who ∉ rowM P [mainOf P] := fun hx => hwF (main1 _ hx)
    unfold outside at g ⊢
    cases hs : server P F u with
    | none =>
      rw [hs] at g
      rw [none' u hs]
      exact g
    | some early =>
      rw [hs] at g
      have g : ((((doorsOf P w.who).map (modeOf P)).filter fun m => decide (m ≠ sDeep)).map (fun _ => early) ++
          (if sDeep ∈ (doorsOf P w.who).map (modeOf P) then (doorsOf P w.who).map (fun k => (server P (doorRow P k) u).getD early) else [])).all (fun a => decide (a = w.ans)) = true := g
      by_cases he : early = w.ans
      · rw [keep u early hs fun n v e => wantNames_bound hw (he ▸ e)]
        exact g
      · -- no way tells early
        rw [List.all_append, Bool.and_eq_true] at g
        obtain ⟨g1, g2⟩ := g
        have alldeep : ∀ k ∈ doorsOf P w.who, modeOf P k = sDeep := by
          intro k hk
          by_cases hd : modeOf P k = sDeep
          · exact hd
          · exfalso
            have := List.all_eq_true.mp g1 early (List.mem_map.mpr ⟨modeOf P k, List.mem_filter.mpr ⟨List.mem_map.mpr ⟨k, hk, rfl⟩, decide_eq_true hd⟩, rfl⟩)
            exact he (of_decide_eq_true this)
        have near : ∀ k ∈ doorsOf P w.who, server P (doorRow P k) u = some w.ans := by
          intro k hk
          have hin : sDeep ∈ (doorsOf P w.who).map (modeOf P) := List.mem_map.mpr ⟨k, hk, alldeep k hk⟩
          rw [if_pos hin] at g2
          have := of_decide_eq_true (List.all_eq_true.mp g2 _ (List.mem_map.mpr ⟨k, hk, rfl⟩))
          cases q : server P (doorRow P k) u with
          | none =>
            rw [q] at this
            exact absurd this he
          | some b =>
            rw [q] at this
            exact congrArg some this
        cases hs2 : server P G u with
        | none =>
          show (alone w.who w.i).all (fun a => decide (a = w.ans)) = true
          rw [List.all_eq_true]
          intro b hb
          exact decide_eq_true (A.deep w.who w.i w.ans hw1 (fun k hk => ⟨alldeep k hk, by rw [hu]; exact near k hk⟩) b hb)
        | some e2 =>
          show (((((doorsOf P w.who).map (modeOf P)).filter fun m => decide (m ≠ sDeep)).map (fun _ => e2)) ++
            (if sDeep ∈ (doorsOf P w.who).map (modeOf P) then (doorsOf P w.who).map (fun k => (server P (doorRow P k) u).getD e2) else [])).all (fun a => decide (a = w.ans)) = true
          have f1 : ((doorsOf P w.who).map (modeOf P)).filter (fun m => decide (m ≠ sDeep)) = [] := by
            rw [List.filter_eq_nil_iff]
            intro m hm
            obtain ⟨k, hk, rfl⟩ := List.mem_map.mp hm
            simp [alldeep k hk]
          rw [f1, List.map_nil, List.nil_append]
          split
          · rw [List.all_eq_true]
            intro a ha
            obtain ⟨k, hk, rfl⟩ := List.mem_map.mp ha
            rw [near k hk]
            exact decide_eq_true rfl
          · rfl
end
end K74

set_option Elab.async false
set_option linter.all false
set_option maxRecDepth 100000
set_option maxHeartbeats 4000000
/-! K74.KL1: data in the heap, judgements by data: expressions that change nothing. -/
namespace K74
open PySem PySem.Spec PyProof.Rows L2

/-- data: numbers, texts, lists and tuples of these; raw: a value as it is (an object of the program's own) -/
inductive D where
  | non | bl (b : Bool) | int (i : Int) | str (s : S) | lst (xs : List D) | tup (xs : List D) | raw (v : V)
abbrev Rho := List (Option D)

mutual
inductive Dat (K : PySem.W.Frag) (H : Hp) : V → D → Prop
  | non : Dat K H .non .non
  | bl (b : Bool) : Dat K H (.bl b) (.bl b)
  | int (i : Int) : Dat K H (.int i) (.int i)
  | str (x : S) : Dat K H (.str x) (.str x)
  | lst {a : Addr} {vs : List V} {ds : List D} : H a = some (.lst vs) → DatAll K H vs ds → Dat K H (.ref a) (.lst ds)
  | tup {a : Addr} {vs : List V} {ds : List D} : SqT K H a vs → DatAll K H vs ds → Dat K H (.ref a) (.tup ds)
  | raw (v : V) : Dat K H v (.raw v)
inductive DatAll (K : PySem.W.Frag) (H : Hp) : List V → List D → Prop
  | nil : DatAll K H [] []
  | cons {v : V} {vs : List V} {d : D} {ds : List D} : Dat K H v d → DatAll K H vs ds → DatAll K H (v :: vs) (d :: ds)
end

section
variable {K : PySem.W.Frag} {H H' H1 : Hp}
theorem Same.seqT {a : Addr} {xs : List V} (e : Same H H') (h : SqT K H a xs) : SqT K H' a xs := by
  rcases h with (h | ⟨o, h⟩) | h
  · exact .inl (.inl (e _ _ h))
  · exact .inl (.inr ⟨o, e _ _ h⟩)
  · exact .inr h
mutual
theorem Dat.mono (e : Same H H') : ∀ {v : V} {d : D}, Dat K H v d → Dat K H' v d
  | _, _, .non => .non
  | _, _, .bl b => .bl b
  | _, _, .int i => .int i
  | _, _, .str x => .str x
  | _, _, .lst h t => .lst (e _ _ h) (DatAll.mono e t)
  | _, _, .tup h t => .tup (Same.seqT e h) (DatAll.mono e t)
  | _, _, .raw v => .raw v
theorem DatAll.mono (e : Same H H') : ∀ {vs : List V} {ds : List D}, DatAll K H vs ds → DatAll K H' vs ds
  | _, _, .nil => .nil
  | _, _, .cons h t => .cons (Dat.mono e h) (DatAll.mono e t)
end
theorem DatAll.length : ∀ {vs : List V} {ds : List D}, DatAll K H vs ds → vs.length = ds.length
  | _, _, .nil => rfl
  | _, _, .cons _ t => by rw [List.length_cons, List.length_cons, DatAll.length t]
theorem DatAll.get : ∀ {vs : List V} {ds : List D} {i : Nat} {d : D}, DatAll K H vs ds → ds[i]? = some d → ∃ v, vs[i]? = some v ∧ Dat K H v d
  | _, _, _, _, .nil, e => by simp at e
  | _, _, 0, _, .cons h _, e => ⟨_, rfl, by simp at e; subst e; exact h⟩
  | _, _, i + 1, _, .cons _ t, e => by
    obtain ⟨v, h1, h2⟩ := DatAll.get (i := i) t (by simpa using e)
    exact ⟨v, by simpa using h1, h2⟩
theorem DatAll.getV : ∀ {vs : List V} {ds : List D} {i : Nat} {v : V}, DatAll K H vs ds → vs[i]? = some v → ∃ d, ds[i]? = some d ∧ Dat K H v d
  | _, _, _, _, .nil, e => by simp at e
  | _, _, 0, _, .cons h _, e => ⟨_, rfl, by simp at e; subst e; exact h⟩
  | _, _, i + 1, _, .cons _ t, e => by
    obtain ⟨v, h1, h2⟩ := DatAll.getV (i := i) t (by simpa using e)
    exact ⟨v, by simpa using h1, h2⟩
theorem DatAll.append : ∀ {vs ws : List V} {ds es : List D}, DatAll K H vs ds → DatAll K H ws es → DatAll K H (vs ++ ws) (ds ++ es)
  | _, _, _, _, .nil, t => t
  | _, _, _, _, .cons h r, t => .cons h (DatAll.append r t)
theorem DatAll.one {v : V} {d : D} (h : Dat K H v d) : DatAll K H [v] [d] := .cons h .nil
theorem DatAll.drop : ∀ {vs : List V} {ds : List D} (n : Nat), DatAll K H vs ds → DatAll K H (vs.drop n) (ds.drop n)
  | _, _, 0, h => h
  | _, _, _ + 1, .nil => .nil
  | _, _, n + 1, .cons _ t => DatAll.drop n t
theorem DatAll.take : ∀ {vs : List V} {ds : List D} (n : Nat), DatAll K H vs ds → DatAll K H (vs.take n) (ds.take n)
  | _, _, 0, _ => .nil
  | _, _, _ + 1, .nil => .nil
  | _, _, n + 1, .cons h t => .cons h (DatAll.take n t)
theorem DatAll.strs : ∀ {vs : List V} {xs : List S}, DatAll K H vs (xs.map D.str) → vs = xs.map V.str
  | _, [], h => by cases h; rfl
  | _, x :: r, h => by
    cases h with
    | cons h t =>
      cases h
      rw [DatAll.strs t]
      rfl
theorem DatAll.of_strs : ∀ {xs : List S}, DatAll K H (xs.map V.str) (xs.map D.str)
  | [] => .nil
  | x :: r => .cons (.str x) DatAll.of_strs
theorem DatAll.bls : ∀ {vs : List V} {xs : List Bool}, DatAll K H vs (xs.map D.bl) → vs = xs.map V.bl
  | _, [], h => by cases h; rfl
  | _, x :: r, h => by
    cases h with
    | cons h t =>
      cases h
      rw [DatAll.bls t]
      rfl
theorem DatAll.ints : ∀ {vs : List V} {xs : List Int}, DatAll K H vs (xs.map D.int) → vs = xs.map V.int
  | _, [], h => by cases h; rfl
  | _, x :: r, h => by
    cases h with
    | cons h t =>
      cases h
      rw [DatAll.ints t]
      rfl
end

/-! ### the judgements -/
/-- the slots hold data; what stood in B stands -/
def EnvR (K : PySem.W.Frag) (B : Hp) (ρ : Rho) (σ : L2.St) (H : Hp) : Prop := Same B H ∧ (∀ (i : Nat) (d : D), ρ[i]? = some (some d) → ∃ v, σ[i]? = some (some v) ∧ Dat K H v d) ∧ ρ.length ≤ σ.length
theorem EnvR.mono {K : PySem.W.Frag} {B H H' : Hp} {ρ : Rho} {σ : L2.St} (e : Same H H') (h : EnvR K B ρ σ H) : EnvR K B ρ σ H' :=
  ⟨h.1.trans e, fun i d hi => let ⟨v, h1, h2⟩ := h.2.1 i d hi; ⟨v, h1, h2.mono e⟩, h.2.2⟩
theorem EnvR.set {K : PySem.W.Frag} {B H : Hp} {ρ : Rho} {σ : L2.St} {j : Nat} {v : V} {d : D} (h : EnvR K B ρ σ H) (hv : Dat K H v d) : EnvR K B (ρ.set j (some d)) (σ.set j (some v)) H := by
  have hl := h.2.2
  refine ⟨h.1, fun i e hi => ?_, by rw [List.length_set, List.length_set]; exact hl⟩
  by_cases hij : j = i
  · subst hij
    have hj : j < ρ.length := by
      have := (List.getElem?_eq_some_iff.mp hi).1
      simpa using this
    rw [List.getElem?_set_self hj] at hi
    cases hi
    exact ⟨v, List.getElem?_set_self (by omega), hv⟩
  · rw [List.getElem?_set_ne hij] at hi
    obtain ⟨w, h1, h2⟩ := h.2.1 i e hi
    exact ⟨w, by rw [List.getElem?_set_ne hij]; exact h1, h2⟩

def tD (K : PySem.W.Frag) (B : Hp) (ρ : Rho) (d : D) : TE := fun σ H Q => EnvR K B ρ σ H ∧ ∀ v H', Same H H' → Dat K H' v d → Q v H'
def tDT (K : PySem.W.Frag) (B : Hp) (ρ : Rho) (b : Bool) : TT := fun σ H Q => EnvR K B ρ σ H ∧ ∀ H', Same H H' → Q b H'
def tDA (K : PySem.W.Frag) (B : Hp) (ρ : Rho) (ds : List D) : TA := fun σ H Q => EnvR K B ρ σ H ∧ ∀ vs H', Same H H' → DatAll K H' vs ds → Q vs H'
abbrev EE (X : Cx) (e : Expr) (B : Hp) (ρ : Rho) (d : D) : Prop := PE X e (tD X.K B ρ d)
abbrev ET (X : Cx) (e : Expr) (B : Hp) (ρ : Rho) (b : Bool) : Prop := PT X e (tDT X.K B ρ b)
abbrev EA (X : Cx) (es : List Expr) (B : Hp) (ρ : Rho) (ds : List D) : Prop := PA X es (tDA X.K B ρ ds)

theorem PE.weak {X : Cx} {e : Expr} {t t' : TE} (h : PE X e t) (w : ∀ σ H Q, t' σ H Q → t σ H Q) : PE X e t' := ⟨fun pins s σ H Q I q => h.run pins s σ H Q I (w σ H Q q)⟩
theorem PT.weak {X : Cx} {e : Expr} {t t' : TT} (h : PT X e t) (w : ∀ σ H Q, t' σ H Q → t σ H Q) : PT X e t' := ⟨fun pins s σ H Q I q => h.run pins s σ H Q I (w σ H Q q)⟩
theorem PA.weak {X : Cx} {es : List Expr} {t t' : TA} (h : PA X es t) (w : ∀ σ H Q, t' σ H Q → t σ H Q) : PA X es t' := ⟨fun pos pins s σ H Q I q => h.run pos pins s σ H Q I (w σ H Q q)⟩
theorem PSs.weak {X : Cx} {e : List Stmt} {t t' : TS} (h : PSs X e t) (w : ∀ D σ H, t' D σ H → t D σ H) : PSs X e t' := ⟨fun pins s σ H D I q => h.run pins s σ H D I (w D σ H q)⟩
theorem PS.weak {X : Cx} {e : Stmt} {t t' : TS} (h : PS X e t) (w : ∀ D σ H, t' D σ H → t D σ H) : PS X e t' := ⟨fun pins s σ H D I q => h.run pins s σ H D I (w D σ H q)⟩

/-- what every rule asks of the context -/
structure Ok (X : Cx) (k : Nat) : Prop where
  calm : X.calm = true
  room : Room k X.A
  nd : X.N.Nodup
theorem Ok.units {X : Cx} {k : Nat} (o : Ok X k) : X.A.units + 64 < cLine := o.room.units

section
variable {X : Cx} {B : Hp} {ρ : Rho} {k : Nat} {e a b c : Expr} {es : List Expr} {pos : Pos} {d da db : D}
theorem EE.is (h : EE X e B ρ d) {d' : D} (q : d = d') : EE X e B ρ d' := by subst q; exact h
theorem ET.is {x y : Bool} (h : ET X e B ρ x) (q : x = y) : ET X e B ρ y := by subst q; exact h

theorem ee_var (i : Nat) {x : S} (hρ : ρ[i]? = some (some d)) (hN : X.N[i]? = some x := by rfl) (hv : Vis X.env.scope x := by first | exact Or.inl rfl | exact Or.inr (Or.inl rfl) | exact Or.inr (Or.inr rfl)) (hd : (x == ("__debug__" : Str)) = false := by decide)
    (hcd : (x == ("__classdict__" : Str)) = false := by decide) : EE X (.Name x pos) B ρ d :=
  PE.weak (pe_var hN hv hd hcd) fun σ H Q h => by
    obtain ⟨v, h1, h2⟩ := h.1.2.1 i d hρ
    exact ⟨v, h1, h.2 v H (Same.refl H) h2⟩
theorem ee_c {v : V} (h : PE X e (tC v)) (hv : ∀ H, Dat X.K H v d) : EE X e B ρ d := PE.weak h fun σ H Q q => q.2 v H (Same.refl H) (hv H)
theorem ee_int {i j} : EE X (.Constant (.int i) j pos) B ρ (.int i) := ee_c pe_int fun _ => .int i
theorem ee_bl {b j} : EE X (.Constant (.bool b) j pos) B ρ (.bl b) := ee_c pe_bl fun _ => .bl b
theorem ee_non {j} : EE X (.Constant .none j pos) B ρ .non := ee_c pe_non fun _ => .non
theorem ee_str {x j} : EE X (.Constant (.str x) j pos) B ρ (.str x) := ee_c pe_str fun _ => .str x
/-- a module's constant -/
structure Gc (mg : Str → Option Value) (K : PySem.W.Frag) (x : S) (d : D) : Prop where
  ex : ∃ (u : Value) (v : V), mg x = some u ∧ RelV v u ∧ ∀ H, Dat K H v d
theorem ee_gc {x : S} (g : Gc X.mg X.K x d) (hg : Gl X x := by rfl) (hd : (x == ("__debug__" : Str)) = false := by decide) : EE X (.Name x pos) B ρ d := by
  obtain ⟨u, v, hm, r, q⟩ := g.ex
  exact ee_c (pe_glob hg hm r hd) q

/-- two in a row -/
theorem t2 {K : PySem.W.Frag} {σ : L2.St} {H : Hp} {R : V → V → Hp → Prop} (h : EnvR K B ρ σ H) (q : ∀ x y H2, Same H H2 → Dat K H2 x da → Dat K H2 y db → R x y H2) :
    tD K B ρ da σ H fun x H1 => tD K B ρ db σ H1 fun y H2 => R x y H2 :=
  ⟨h, fun x H1 s1 dx => ⟨h.mono s1, fun y H2 s2 dy => q x y H2 (s1.trans s2) (dx.mono s2) dy⟩⟩
/-- an operation on data: what it gives -/
def OpD (X : Cx) (f : Value → Value → Sem Value) (B : Hp) (da db d : D) : Prop :=
  ∃ r : R2, OpR X f r ∧ ∀ x y H (Q : VK), Same B H → Dat X.K H x da → Dat X.K H y db → (∀ v H', Same H H' → Dat X.K H' v d → Q v H') → r x y H Q
theorem ee_op {op : Operator} (o : OpD X (binaryOp op) B da db d) (ha : EE X a B ρ da) (hb : EE X b B ρ db) : EE X (.BinOp a op b pos) B ρ d := by
  obtain ⟨r, ho, hr⟩ := o
  exact PE.weak (pe_op ho ha hb) fun σ H Q h => t2 h.1 fun x y H2 s dx dy => hr x y H2 Q (h.1.1.trans s) dx dy fun v H' s' dv => h.2 v H' (s.trans s') dv
theorem ee_cmp {op : CmpOp} (o : OpD X (compareOp op) B da db d) (ha : EE X a B ρ da) (hb : EE X b B ρ db) (hm : behindInMarks op b = false := by first | exact nobehind _ (by decide) (by decide) | rfl) : EE X (.Compare a [op] [b] pos) B ρ d := by
  obtain ⟨r, ho, hr⟩ := o
  exact PE.weak (pe_cmpR ho ha hb hm) fun σ H Q h => t2 h.1 fun x y H2 s dx dy => hr x y H2 Q (h.1.1.trans s) dx dy fun v H' s' dv => h.2 v H' (s.trans s') dv
theorem et_cmp {op : CmpOp} {z : Bool} (o : OpD X (compareOp op) B da db (.bl z)) (ha : EE X a B ρ da) (hb : EE X b B ρ db) (hm : behindInMarks op b = false := by first | exact nobehind _ (by decide) (by decide) | rfl) : ET X (.Compare a [op] [b] pos) B ρ z := by
  obtain ⟨r, ho, hr⟩ := o
  exact PT.weak (pt_cmpR ho ha hb hm) fun σ H Q h => t2 h.1 fun x y H2 s dx dy => hr x y H2 _ (h.1.1.trans s) dx dy fun v H' s' dv => by
    cases dv
    exact ⟨z, rfl, h.2 H' (s.trans s')⟩

/-! ### ints -/
theorem od_addI {i j : Int} : OpD X (binaryOp .Add) B (.int i) (.int j) (.int (i + j)) := ⟨_, op_add, fun x y H Q _ dx dy q => by cases dx; cases dy; exact ⟨i, j, rfl, rfl, q _ H (Same.refl H) (.int _)⟩⟩
theorem od_subI {i j : Int} : OpD X (binaryOp .Sub) B (.int i) (.int j) (.int (i - j)) := ⟨_, op_sub, fun x y H Q _ dx dy q => by cases dx; cases dy; exact ⟨i, j, rfl, rfl, q _ H (Same.refl H) (.int _)⟩⟩
theorem od_mulI {i j : Int} (hc : CMul i j) : OpD X (binaryOp .Mult) B (.int i) (.int j) (.int (i * j)) := ⟨_, op_mul, fun x y H Q _ dx dy q => by cases dx; cases dy; exact ⟨i, j, rfl, rfl, hc, q _ H (Same.refl H) (.int _)⟩⟩
theorem od_modI {i j : Int} (hc : 0 < j) : OpD X (binaryOp .Mod) B (.int i) (.int j) (.int (i % j)) := ⟨_, op_mod, fun x y H Q _ dx dy q => by cases dx; cases dy; exact ⟨i, j, rfl, rfl, hc, q _ H (Same.refl H) (.int _)⟩⟩
theorem od_fdivI {i j : Int} (hc : CDiv i j) : OpD X (binaryOp .FloorDiv) B (.int i) (.int j) (.int (i / j)) := ⟨_, op_fdiv, fun x y H Q _ dx dy q => by cases dx; cases dy; exact ⟨i, j, rfl, rfl, hc, q _ H (Same.refl H) (.int _)⟩⟩
theorem od_powI {i j : Int} (hc : CPow i j) : OpD X (binaryOp .Pow) B (.int i) (.int j) (.int (i ^ j.toNat)) := ⟨_, op_pow, fun x y H Q _ dx dy q => by cases dx; cases dy; exact ⟨i, j, rfl, rfl, hc, q _ H (Same.refl H) (.int _)⟩⟩
theorem od_lt {i j : Int} : OpD X (compareOp .Lt) B (.int i) (.int j) (.bl (decide (i < j))) := ⟨_, op_lt, fun x y H Q _ dx dy q => by cases dx; cases dy; exact ⟨i, j, rfl, rfl, q _ H (Same.refl H) (.bl _)⟩⟩
theorem od_le {i j : Int} : OpD X (compareOp .LtE) B (.int i) (.int j) (.bl (decide (i ≤ j))) := ⟨_, op_le, fun x y H Q _ dx dy q => by cases dx; cases dy; exact ⟨i, j, rfl, rfl, q _ H (Same.refl H) (.bl _)⟩⟩
theorem od_gt {i j : Int} : OpD X (compareOp .Gt) B (.int i) (.int j) (.bl (decide (j < i))) := ⟨_, op_gt, fun x y H Q _ dx dy q => by cases dx; cases dy; exact ⟨i, j, rfl, rfl, q _ H (Same.refl H) (.bl _)⟩⟩
theorem od_ge {i j : Int} : OpD X (compareOp .GtE) B (.int i) (.int j) (.bl (decide (j ≤ i))) := ⟨_, op_ge, fun x y H Q _ dx dy q => by cases dx; cases dy; exact ⟨i, j, rfl, rfl, q _ H (Same.refl H) (.bl _)⟩⟩
/-! ### scalars -/
theorem od_eqS {x y : S} : OpD X (compareOp .Eq) B (.str x) (.str y) (.bl (decide (x = y))) := ⟨_, op_eq, fun _ _ H Q _ dx dy q => by
  cases dx; cases dy
  exact ⟨rfl, q _ H (Same.refl H) (by
    have e : decide (V.str x = V.str y) = decide (x = y) := by rw [dec_str]; exact Bool.beq_eq_decide_eq x y
    rw [e]; exact .bl _)⟩⟩
theorem od_neS {x y : S} : OpD X (compareOp .NotEq) B (.str x) (.str y) (.bl (decide (x ≠ y))) := ⟨_, op_ne, fun _ _ H Q _ dx dy q => by
  cases dx; cases dy
  exact ⟨rfl, q _ H (Same.refl H) (by
    have e : (!decide (V.str x = V.str y)) = decide (x ≠ y) := by rw [dec_str, Bool.beq_eq_decide_eq x y]; simp
    rw [e]; exact .bl _)⟩⟩
theorem od_eqI {x y : Int} : OpD X (compareOp .Eq) B (.int x) (.int y) (.bl (decide (x = y))) := ⟨_, op_eq, fun _ _ H Q _ dx dy q => by
  cases dx; cases dy
  exact ⟨rfl, q _ H (Same.refl H) (by
    have e : decide (V.int x = V.int y) = decide (x = y) := by rw [dec_int]; exact Bool.beq_eq_decide_eq x y
    rw [e]; exact .bl _)⟩⟩
theorem od_neB {x y : Bool} : OpD X (compareOp .NotEq) B (.bl x) (.bl y) (.bl (decide (x ≠ y))) := ⟨_, op_ne, fun _ _ H Q _ dx dy q => by
  cases dx; cases dy
  exact ⟨rfl, q _ H (Same.refl H) (by
    have e : (!decide (V.bl x = V.bl y)) = decide (x ≠ y) := by rw [dec_bl, Bool.beq_eq_decide_eq x y]; simp
    rw [e]; exact .bl _)⟩⟩
/-! ### None -/
def isNonD : D → Bool
  | .non => true
  | .raw v => decide (v = .non)
  | _ => false
theorem isNonD_of {K : PySem.W.Frag} {H : Hp} {v : V} {d : D} (h : Dat K H v d) : decide (v = .non) = isNonD d := by
  cases h <;> rfl
theorem od_isN : OpD X (compareOp .Is) B da .non (.bl (isNonD da)) := ⟨_, op_isN, fun _ _ H Q _ dx dy q => by
  cases dy
  exact ⟨rfl, by rw [isNonD_of dx]; exact q _ H (Same.refl H) (.bl _)⟩⟩
theorem od_notN : OpD X (compareOp .IsNot) B da .non (.bl (!isNonD da)) := ⟨_, op_notN, fun _ _ H Q _ dx dy q => by
  cases dy
  exact ⟨rfl, by rw [isNonD_of dx]; exact q _ H (Same.refl H) (.bl _)⟩⟩
/-! ### truth -/
theorem et_val {x : Bool} (h : EE X a B ρ (.bl x)) (he : ∀ whole, PySem.isTrue a X.env whole = (do let v ← whole; standAt a.pos; holding [v] (truthy v)) := by intro _; rfl) : ET X a B ρ x := PT.weak (pt_val h he) fun σ H Q q => ⟨q.1, fun v H1 s1 dv => by cases dv; exact ⟨x, rfl, q.2 H1 s1⟩⟩
theorem et_not {x : Bool} (h : ET X a B ρ x) : ET X (.UnaryOp .Not a pos) B ρ (!x) := PT.weak (pt_not h) fun σ H Q q => ⟨q.1, fun H1 s1 => q.2 H1 s1⟩
theorem et_and {x y : Bool} (ha : ET X a B ρ x) (hb : x = true → ET X b B ρ y) : ET X (.BoolOp .And [a, b] pos) B ρ (x && y) := by
  cases x with
  | true => exact PT.weak (PW.pt (pw_and ha (pw_and1 (hb rfl)))) fun σ H Q q => ⟨q.1, fun H1 s1 => ⟨q.1.mono s1, fun H2 s2 => q.2 H2 (s1.trans s2)⟩⟩
  | false =>
    refine PT.weak (PW.pt (pw_and (tB' := fun _ _ _ => False) ha ⟨fun _ _ _ _ _ _ _ z => z.elim⟩)) fun σ H Q q => ⟨q.1, fun H1 s1 => ?_⟩
    show Q false H1
    exact q.2 H1 s1
theorem et_or {x y : Bool} (ha : ET X a B ρ x) (hb : x = false → ET X b B ρ y) : ET X (.BoolOp .Or [a, b] pos) B ρ (x || y) := by
  cases x with
  | false => exact PT.weak (PW.pt (pw_or ha (pw_or1 (hb rfl)))) fun σ H Q q => ⟨q.1, fun H1 s1 => ⟨q.1.mono s1, fun H2 s2 => q.2 H2 (s1.trans s2)⟩⟩
  | true =>
    refine PT.weak (PW.pt (pw_or (tB' := fun _ _ _ => False) ha ⟨fun _ _ _ _ _ _ _ z => z.elim⟩)) fun σ H Q q => ⟨q.1, fun H1 s1 => ?_⟩
    show Q true H1
    exact q.2 H1 s1
theorem ee_and {x : Bool} {d : D} (ha : EE X a B ρ (.bl x)) (hb : x = true → EE X b B ρ d) : EE X (.BoolOp .And [a, b] pos) B ρ (if x = true then d else .bl false) := by
  cases x with
  | true => exact PE.weak (pe_and ha (pe_one (hb rfl))) fun σ H Q q => ⟨q.1, fun v H1 s1 dv => by
      cases dv
      exact ⟨true, rfl, q.1.mono s1, fun v H2 s2 dv => q.2 v H2 (s1.trans s2) dv⟩⟩
  | false => exact PE.weak (pe_and (tb := fun _ _ _ => False) ha ⟨fun _ _ _ _ _ _ z => z.elim⟩) fun σ H Q q => ⟨q.1, fun v H1 s1 dv => by
      cases dv
      exact ⟨false, rfl, q.2 _ H1 s1 (.bl false)⟩⟩
theorem ee_or {x : Bool} {d : D} (ha : EE X a B ρ (.bl x)) (hb : x = false → EE X b B ρ d) : EE X (.BoolOp .Or [a, b] pos) B ρ (if x = true then .bl true else d) := by
  cases x with
  | false => exact PE.weak (pe_or ha (pe_one (hb rfl))) fun σ H Q q => ⟨q.1, fun v H1 s1 dv => by
      cases dv
      exact ⟨false, rfl, q.1.mono s1, fun v H2 s2 dv => q.2 v H2 (s1.trans s2) dv⟩⟩
  | true => exact PE.weak (pe_or (tb := fun _ _ _ => False) ha ⟨fun _ _ _ _ _ _ z => z.elim⟩) fun σ H Q q => ⟨q.1, fun v H1 s1 dv => by
      cases dv
      exact ⟨true, rfl, q.2 _ H1 s1 (.bl true)⟩⟩
theorem ee_not {x : Bool} (ha : EE X a B ρ (.bl x)) : EE X (.UnaryOp .Not a pos) B ρ (.bl (!x)) :=
  PE.weak (pe_not ha) fun σ H Q q => ⟨q.1, fun v H1 s1 dv => by cases dv; exact ⟨x, rfl, q.2 _ H1 s1 (.bl _)⟩⟩
theorem ee_if {x : Bool} {d1 d2 : D} (hc : ET X c B ρ x) (ha : x = true → EE X a B ρ d1) (hb : x = false → EE X b B ρ d2) : EE X (.IfExp c a b pos) B ρ (if x = true then d1 else d2) := by
  cases x with
  | true => exact PE.weak (pe_ifExp (tb := fun _ _ _ => False) hc (ha rfl) ⟨fun _ _ _ _ _ _ z => z.elim⟩) fun σ H Q q => ⟨q.1, fun H1 s1 => ⟨q.1.mono s1, fun v H2 s2 dv => q.2 v H2 (s1.trans s2) dv⟩⟩
  | false => exact PE.weak (pe_ifExp (ta := fun _ _ _ => False) hc ⟨fun _ _ _ _ _ _ z => z.elim⟩ (hb rfl)) fun σ H Q q => ⟨q.1, fun H1 s1 => ⟨q.1.mono s1, fun v H2 s2 dv => q.2 v H2 (s1.trans s2) dv⟩⟩
/-- a < b < c of ints, as a test -/
theorem et_chain {op1 op2 : CmpOp} {p1 p2 : Int → Int → Bool} {i j l : Int} (h1 : OpR X (compareOp op1) (rI0 fun i j => .bl (p1 i j))) (h2 : OpR X (compareOp op2) (rI0 fun i j => .bl (p2 i j)))
    (ha : EE X a B ρ (.int i)) (hb : EE X b B ρ (.int j)) (hc : EE X c B ρ (.int l)) (hm : lastMarks [op1, op2] [b, c] = false := by rfl) : ET X (.Compare a [op1, op2] [b, c] pos) B ρ (p1 i j && p2 j l) :=
  PT.weak (pt_chain h1 h2 ha hb hc (hm := hm)) fun σ H Q q => t2 q.1 fun x y H2 s dx dy => by
    cases dx; cases dy
    refine ⟨i, j, rfl, rfl, p1 i j, rfl, ?_⟩
    cases hp : p1 i j with
    | true =>
      refine ⟨q.1.mono s, fun v H3 s3 dv => ?_⟩
      cases dv
      refine ⟨j, l, rfl, rfl, p2 j l, rfl, ?_⟩
      have := q.2 H3 (s.trans s3)
      rw [hp] at this
      exact this
    | false =>
      refine ⟨false, rfl, ?_⟩
      have := q.2 H2 s
      rw [hp] at this
      exact this

/-! ### arguments, displays -/
theorem ea_nil : EA X [] B ρ [] := PA.weak pa_nil fun σ H Q q => q.2 [] H (Same.refl H) .nil
theorem ea_cons {ds : List D} (he : EE X e B ρ d) (hr : EA X es B ρ ds) (hs : starEach (e :: es) X.env = (false, eval e X.env) :: starEach es X.env := by rfl) : EA X (e :: es) B ρ (d :: ds) :=
  PA.weak (pa_cons he hr hs) fun σ H Q q => ⟨q.1, fun v H1 s1 dv => ⟨q.1.mono s1, fun vs H2 s2 dvs => q.2 _ H2 (s1.trans s2) (.cons (dv.mono s2) dvs)⟩⟩
theorem ea_star {ds ds2 : List D} {p : Pos} (he : EE X e B ρ (.tup ds)) (hr : EA X es B ρ ds2) (hs : starEach (.Starred e p :: es) X.env = (true, eval e X.env) :: starEach es X.env := by rfl) : EA X (.Starred e p :: es) B ρ (ds ++ ds2) :=
  PA.weak (StX.pa_star he hr hs) fun σ H Q q => ⟨q.1, fun v H1 s1 dv => by
    cases dv with
    | tup ht hd => exact ⟨_, _, rfl, .inl ht, q.1.mono s1, fun vs H2 s2 dvs => q.2 _ H2 (s1.trans s2) ((hd.mono s2).append dvs)⟩⟩
theorem ee_tup {ds : List D} {x1} (h : EA X es B ρ ds) (hl : ds.length.ble 100 = true := by rfl) : EE X (.Tuple es x1 pos) B ρ (.tup ds) :=
  PE.weak (pe_tup h) fun σ H Q q => ⟨q.1, fun vs H1 s1 dvs => ⟨by rw [dvs.length]; exact Nat.le_trans (Nat.le_of_ble_eq_true hl) (by decide), fun p hp => q.2 _ _ (s1.trans fun b o e => by rw [upd_ne (ne_of_none e hp)]; exact e)
    (.tup (.inl (.inl upd_same)) (dvs.mono fun b o e => by rw [upd_ne (ne_of_none e hp)]; exact e))⟩⟩
theorem ee_lst {ds : List D} (h : EA X es B ρ ds) (hl : ds.length.ble 100 = true := by rfl) : EE X (.List es pos) B ρ (.lst ds) :=
  PE.weak (pe_lst h) fun σ H Q q => ⟨q.1, fun vs H1 s1 dvs => ⟨by rw [dvs.length]; exact Nat.le_trans (Nat.le_of_ble_eq_true hl) (by decide), fun p hp => q.2 _ _ (s1.trans fun b o e => by rw [upd_ne (ne_of_none e hp)]; exact e)
    (.lst upd_same (dvs.mono fun b o e => by rw [upd_ne (ne_of_none e hp)]; exact e))⟩⟩
end
theorem Same.new {H : Hp} {p : Addr} {o : HO} (h : H p = none) : Same H (upd H p o) := fun b u e => by
  rw [upd_ne (ne_of_none e h)]
  exact e

section
variable {X : Cx} {B : Hp} {ρ : Rho} {k : Nat} {e a b c : Expr} {es : List Expr} {pos : Pos} {d da db : D} {xs ys : List D}
/-! ### sequences -/
def D.at : D → Int → Option D
  | .tup xs, i => atI xs i
  | .lst xs, i => atI xs i
  | _, _ => none
theorem DatAll.atI {K : PySem.W.Frag} {H : Hp} {vs : List V} {ds : List D} {i : Int} {d : D} (h : DatAll K H vs ds) (e : atI ds i = some d) : ∃ v, L2.atI vs i = some v ∧ Dat K H v d := by
  unfold L2.atI at e ⊢
  rw [h.length]
  cases q : ixN ds.length i with
  | none => rw [q] at e; cases e
  | some j =>
    rw [q] at e
    exact h.get e
theorem ee_ix {i : Int} (ha : EE X a B ρ da) (hb : EE X b B ρ (.int i)) (hd : da.at i = some d) (hs : PlainIx b := by exact fun _ _ => rfl) : EE X (.Subscript a b pos) B ρ d :=
  PE.weak (pe_ix ix_seq ha hb hs) fun σ H Q q => t2 q.1 fun x y H2 s dx dy => by
    cases dy
    cases dx with
    | lst h t =>
      obtain ⟨v, h1, h2⟩ := t.atI hd
      exact .inl ⟨_, _, i, v, rfl, rfl, SqL.of h, h1, q.2 v H2 s h2⟩
    | tup h t =>
      obtain ⟨v, h1, h2⟩ := t.atI hd
      exact .inr (.inl ⟨_, _, i, v, rfl, rfl, h, h1, q.2 v H2 s h2⟩)
    | _ => cases hd
/-- sums of tuples, of lists -/
theorem od_addT (hl : xs.length + ys.length ≤ sizeLine) : OpD X (binaryOp .Add) B (.tup xs) (.tup ys) (.tup (xs ++ ys)) :=
  ⟨_, op_catA, fun x y H Q _ dx dy q => by
    cases dx with
    | tup h t =>
      cases dy with
      | tup h' t' =>
        refine ⟨_, _, _, _, rfl, rfl, h, h', by rw [t.length, t'.length]; exact hl, fun e => ?_, fun _ e => ?_, fun _ _ p hp => ?_⟩
        · have e2 := t.length
          rw [e] at e2
          have e3 : xs = [] := List.eq_nil_of_length_eq_zero e2.symm
          subst e3
          exact q _ H (Same.refl H) (.tup h' t')
        · have e2 := t'.length
          rw [e] at e2
          have e3 : ys = [] := List.eq_nil_of_length_eq_zero e2.symm
          subst e3
          rw [List.append_nil] at q
          exact q _ H (Same.refl H) (.tup h t)
        · exact q _ _ (Same.new hp) (.tup (.inl (.inl upd_same)) ((t.append t').mono (Same.new hp)))⟩
theorem od_addL (hl : xs.length + ys.length ≤ sizeLine) : OpD X (binaryOp .Add) B (.lst xs) (.lst ys) (.lst (xs ++ ys)) :=
  ⟨_, op_cat, fun x y H Q _ dx dy q => by
    cases dx with
    | lst h t =>
      cases dy with
      | lst h' t' => exact ⟨_, _, _, _, rfl, rfl, h, h', by rw [t.length, t'.length]; exact hl, fun p hp => q _ _ (Same.new hp) (.lst upd_same ((t.append t').mono (Same.new hp)))⟩⟩
def D.len : D → Option Nat
  | .tup xs => some xs.length
  | .lst xs => some xs.length
  | _ => none
/-- len -/
theorem ee_len {p : Pos} {n : Nat} (hm : X.mg "len" = none) (ha : EE X a B ρ da) (hd : da.len = some n) (hg : Gl X "len" := by rfl)
    (hs : starEach [a] X.env = (false, eval a X.env) :: starEach [] X.env := by rfl) :
    EE X (.Call (.Name "len" p) [a] [] pos) B ρ (.int n) :=
  PE.weak (pe_callB call_len_seq hg hm PySem.boot_len (pa_cons ha pa_nil hs) (he := hs)) fun σ H Q q => ⟨q.1, fun v H1 s1 dv => by
    cases dv with
    | lst h t =>
      have e : _ = n := Option.some.inj hd
      refine ⟨_, _, rfl, .inl (SqL.of h), q.2 _ H1 s1 ?_⟩
      rw [t.length, e]
      exact .int _
    | tup h t =>
      have e : _ = n := Option.some.inj hd
      refine ⟨_, _, rfl, .inr h, q.2 _ H1 s1 ?_⟩
      rw [t.length, e]
      exact .int _
    | _ => cases hd⟩
/-- list(xs), tuple(xs) -/
theorem ee_list {p : Pos} (hm : X.mg "list" = none) (ha : EE X a B ρ (.lst xs)) (hg : Gl X "list" := by rfl) (hs : starEach [a] X.env = (false, eval a X.env) :: starEach [] X.env := by rfl) :
    EE X (.Call (.Name "list" p) [a] [] pos) B ρ (.lst xs) :=
  PE.weak (pe_callTy call_list_of hg hm (by decide +kernel) (pa_cons ha pa_nil hs) (he := hs)) fun σ H Q q => ⟨q.1, fun v H1 s1 dv => by
    cases dv with
    | lst h t => exact ⟨_, _, rfl, .inl (SqL.of h), fun l hl => q.2 _ _ (s1.trans (Same.new hl)) (.lst upd_same (t.mono (Same.new hl)))⟩⟩
theorem ee_tuple {p : Pos} (hm : X.mg "tuple" = none) (ha : EE X a B ρ da) (hd : da = .lst xs ∨ da = .tup xs) (hg : Gl X "tuple" := by rfl) (hs : starEach [a] X.env = (false, eval a X.env) :: starEach [] X.env := by rfl) :
    EE X (.Call (.Name "tuple" p) [a] [] pos) B ρ (.tup xs) :=
  PE.weak (pe_callTy call_tuple_of hg hm (by decide +kernel) (pa_cons ha pa_nil hs) (he := hs)) fun σ H Q q => ⟨q.1, fun v H1 s1 dv => by
    rcases hd with rfl | rfl
    · cases dv with
      | lst h t => exact ⟨_, _, rfl, .inl ⟨SqL.of h, fun l hl => q.2 _ _ (s1.trans (Same.new hl)) (.tup (.inl (.inl upd_same)) (t.mono (Same.new hl)))⟩⟩
    · cases dv with
      | tup h t => exact ⟨_, _, rfl, .inr ⟨h, q.2 _ _ s1 (.tup h t)⟩⟩⟩
/-- all, any, sum of a list -/
theorem ee_all {p : Pos} {bs : List Bool} (o : Ok X k) (hm : X.mg "all" = none) (ha : EE X a B ρ (.lst (bs.map D.bl))) (hg : Gl X "all" := by rfl) (hs : starEach [a] X.env = (false, eval a X.env) :: starEach [] X.env := by rfl) :
    EE X (.Call (.Name "all" p) [a] [] pos) B ρ (.bl (bs.all id)) :=
  PE.weak (pe_callB (cr_all o.calm) hg hm (by decide +kernel) (pa_cons ha pa_nil hs) (he := hs)) fun σ H Q q => ⟨q.1, fun v H1 s1 dv => by
    cases dv with
    | lst h t =>
      obtain rfl := t.bls
      exact ⟨_, bs, rfl, SqL.of h, q.2 _ H1 s1 (.bl _)⟩⟩
theorem ee_any {p : Pos} {bs : List Bool} (o : Ok X k) (hm : X.mg "any" = none) (ha : EE X a B ρ (.lst (bs.map D.bl))) (hg : Gl X "any" := by rfl) (hs : starEach [a] X.env = (false, eval a X.env) :: starEach [] X.env := by rfl) :
    EE X (.Call (.Name "any" p) [a] [] pos) B ρ (.bl (bs.any id)) :=
  PE.weak (pe_callB (cr_any o.calm) hg hm (by decide +kernel) (pa_cons ha pa_nil hs) (he := hs)) fun σ H Q q => ⟨q.1, fun v H1 s1 dv => by
    cases dv with
    | lst h t =>
      obtain rfl := t.bls
      exact ⟨_, bs, rfl, SqL.of h, q.2 _ H1 s1 (.bl _)⟩⟩
theorem ee_sum {p : Pos} {ns : List Int} (o : Ok X k) (hm : X.mg "sum" = none) (ha : EE X a B ρ (.lst (ns.map D.int))) (hg : Gl X "sum" := by rfl) (hs : starEach [a] X.env = (false, eval a X.env) :: starEach [] X.env := by rfl) :
    EE X (.Call (.Name "sum" p) [a] [] pos) B ρ (.int ns.sum) :=
  PE.weak (pe_callB (cr_sum o.calm) hg hm (by decide +kernel) (pa_cons ha pa_nil hs) (he := hs)) fun σ H Q q => ⟨q.1, fun v H1 s1 dv => by
    cases dv with
    | lst h t =>
      obtain rfl := t.ints
      exact ⟨_, ns, rfl, SqL.of h, q.2 _ H1 s1 (.int _)⟩⟩
end
end K74

set_option Elab.async false
set_option linter.all false
set_option maxRecDepth 100000
set_option maxHeartbeats 4000000
/-! K74.KL2: == and in over data. -/
namespace K74
open PySem PySem.Spec PyProof.Rows L2

/-! ### equality of data -/
def toV : D → V
  | .non => .non
  | .bl b => .bl b
  | .int i => .int i
  | .str s => .str s
  | _ => .non
def D.flat : D → Bool
  | .non => true
  | .bl _ => true
  | .int _ => true
  | .str _ => true
  | _ => false
mutual
def eqD : D → D → Bool
  | .lst xs, .lst ys => eqDs xs ys
  | .tup xs, .tup ys => eqDs xs ys
  | d, e => eqV (toV d) (toV e)
def eqDs : List D → List D → Bool
  | [], [] => true
  | x :: xs, y :: ys => eqD x y && eqDs xs ys
  | _, _ => false
end
mutual
/-- the two may be compared: sequences of one kind, or flat both -/
def cmpD : D → D → Bool
  | .lst xs, .lst ys => cmpDs xs ys
  | .tup xs, .tup ys => cmpDs xs ys
  | d, e => d.flat && e.flat
def cmpDs : List D → List D → Bool
  | [], _ => true
  | _ :: _, [] => true
  | x :: xs, y :: ys => cmpD x y && cmpDs xs ys
end
mutual
def D.deep : D → Nat
  | .lst xs => deeps xs + 1
  | .tup xs => deeps xs + 1
  | _ => 0
def deeps : List D → Nat
  | [] => 0
  | x :: xs => max x.deep (deeps xs)
end
mutual
def D.fine : D → Bool
  | .lst xs => fines xs
  | .tup xs => fines xs
  | .raw _ => false
  | _ => true
def fines : List D → Bool
  | [] => true
  | x :: xs => x.fine && fines xs
end
theorem eqV_refl {v : V} (h : flatV v = true) : eqV v v = true := by
  cases v <;> first | rfl | exact beq_self_eq_true _ | cases h
mutual
theorem eqD_refl : ∀ d : D, d.fine = true → eqD d d = true
  | .non, _ => rfl
  | .bl b, _ => eqV_refl (v := .bl b) rfl
  | .int i, _ => eqV_refl (v := .int i) rfl
  | .str s, _ => eqV_refl (v := .str s) rfl
  | .lst xs, h => eqDs_refl xs h
  | .tup xs, h => eqDs_refl xs h
theorem eqDs_refl : ∀ xs : List D, fines xs = true → eqDs xs xs = true
  | [], _ => rfl
  | x :: r, h => by
    have h' : (x.fine && fines r) = true := h
    rw [Bool.and_eq_true] at h'
    show (eqD x x && eqDs r r) = true
    rw [eqD_refl x h'.1, eqDs_refl r h'.2]
    rfl
end

section
variable {X : Cx} {pins : List (Addr × Obj)} {σ : L2.St} {H : Hp} {s : Shared}
theorem lst_tup (I : Inv X pins σ H s) {a : Addr} {xs ys : List V} (h : H a = some (.lst xs)) (h' : SqT X.K H a ys) : False := by
  obtain ⟨_, its, n, _, e⟩ : xs.length ≤ sizeLine ∧ ∃ (its : List Value) (n : Nat), Vals xs its ∧ s.heap.get? a = some { cls := .type "list", data := .seq its.toArray n } := I.hok a _ h
  obtain ⟨_, _, ⟨o, ho, hc, _⟩, _⟩ := I.tuple h'
  rw [e] at ho
  cases ho
  exact absurd hc (show ¬ (Value.type "list" = Value.type "tuple") by decide +kernel)
mutual
theorem Dat.inj (I : Inv X pins σ H s) : ∀ {d e : D} {v : V}, Dat X.K H v d → Dat X.K H v e → d.fine = true → e.fine = true → d = e
  | .raw _, _, _, _, _, hd, _ => by cases hd
  | .non, e, _, .non, h, _, he => by cases h <;> first | rfl | cases he
  | .bl _, e, _, .bl _, h, _, he => by cases h <;> first | rfl | cases he
  | .int _, e, _, .int _, h, _, he => by cases h <;> first | rfl | cases he
  | .str _, e, _, .str _, h, _, he => by cases h <;> first | rfl | cases he
  | .lst xs, e, _, .lst h1 t1, h, hd, he => by
    cases h with
    | lst h2 t2 =>
      rw [h1] at h2
      cases h2
      rw [DatAll.inj I t1 t2 hd he]
    | tup h2 t2 => exact (lst_tup I h1 h2).elim
    | raw => cases he
  | .tup xs, e, _, .tup h1 t1, h, hd, he => by
    cases h with
    | tup h2 t2 =>
      have q := I.tuple_inj h1 h2
      subst q
      rw [DatAll.inj I t1 t2 hd he]
    | lst h2 t2 => exact (lst_tup I h2 h1).elim
    | raw => cases he
theorem DatAll.inj (I : Inv X pins σ H s) : ∀ {ds es : List D} {vs : List V}, DatAll X.K H vs ds → DatAll X.K H vs es → fines ds = true → fines es = true → ds = es
  | [], _, _, .nil, h, _, _ => by cases h; rfl
  | d :: ds, _, _, .cons h1 t1, h, hd, he => by
    cases h with
    | cons h2 t2 =>
      have hd' : (d.fine && fines ds) = true := hd
      rw [Bool.and_eq_true] at hd'
      have he' := he
      simp only [fines, Bool.and_eq_true] at he'
      rw [Dat.inj I h1 h2 hd'.1 he'.1, DatAll.inj I t1 t2 hd'.2 he'.2]
end
theorem Dat.flatV {K : PySem.W.Frag} {H : Hp} {v : V} {d : D} (h : Dat K H v d) (f : d.flat = true) : v = toV d ∧ flatV v = true := by
  cases h <;> first | exact ⟨rfl, rfl⟩ | cases f
theorem eqD_flat {d e : D} (hd : d.flat = true) : eqD d e = eqV (toV d) (toV e) := by
  cases d <;> first | (cases e <;> rfl) | cases hd
theorem all_range {f : Nat → Bool} : ∀ {ds es : List D}, ds.length = es.length → (∀ (j : Nat) (d e : D), ds[j]? = some d → es[j]? = some e → f j = eqD d e) → (List.range ds.length).all f = eqDs ds es := by
  intro ds
  induction ds generalizing f with
  | nil =>
    intro es hl _
    cases es with
    | nil => rfl
    | cons _ _ => cases hl
  | cons d ds ih =>
    intro es hl h
    cases es with
    | nil => cases hl
    | cons e es =>
      rw [List.length_cons, List.range_succ_eq_map, List.all_cons, List.all_map]
      show (f 0 && (List.range ds.length).all (fun j => f (j + 1))) = (eqD d e && eqDs ds es)
      rw [h 0 d e rfl rfl, ih (f := fun j => f (j + 1)) (by simpa using hl) fun j a b ha hb => h (j + 1) a b (by simpa using ha) (by simpa using hb)]
theorem eqDs_len {ds : List D} : ∀ {es : List D}, ds.length ≠ es.length → eqDs ds es = false := by
  induction ds with
  | nil =>
    intro es h
    cases es with
    | nil => exact absurd rfl h
    | cons _ _ => rfl
  | cons d ds ih =>
    intro es h
    cases es with
    | nil => rfl
    | cons e es =>
      show (eqD d e && eqDs ds es) = false
      rw [ih (fun q => h (by rw [List.length_cons, List.length_cons, q]))]
      exact Bool.and_false _
theorem cmpDs_get : ∀ {ds es : List D} {j : Nat} {d e : D}, cmpDs ds es = true → ds[j]? = some d → es[j]? = some e → cmpD d e = true
  | [], _, _, _, _, _, h, _ => by simp at h
  | _ :: _, [], _, _, _, _, _, h => by simp at h
  | x :: xs, y :: ys, 0, d, e, h, h1, h2 => by
    simp at h1 h2
    subst h1 h2
    have h' : (cmpD x y && cmpDs xs ys) = true := h
    rw [Bool.and_eq_true] at h'
    exact h'.1
  | x :: xs, y :: ys, j + 1, d, e, h, h1, h2 => by
    have h' : (cmpD x y && cmpDs xs ys) = true := h
    rw [Bool.and_eq_true] at h'
    exact cmpDs_get (j := j) h'.2 (by simpa using h1) (by simpa using h2)
theorem deeps_get : ∀ {ds : List D} {j : Nat} {d : D}, ds[j]? = some d → d.deep ≤ deeps ds
  | [], _, _, h => by simp at h
  | x :: xs, 0, d, h => by
    simp at h
    subst h
    exact Nat.le_max_left _ _
  | x :: xs, j + 1, d, h => Nat.le_trans (deeps_get (ds := xs) (j := j) (by simpa using h)) (Nat.le_max_right _ _)
theorem fines_get : ∀ {ds : List D} {j : Nat} {d : D}, fines ds = true → ds[j]? = some d → d.fine = true
  | [], _, _, _, h => by simp at h
  | x :: xs, 0, d, f, h => by
    simp at h
    subst h
    have f' : (x.fine && fines xs) = true := f
    rw [Bool.and_eq_true] at f'
    exact f'.1
  | x :: xs, j + 1, d, f, h => by
    have f' : (x.fine && fines xs) = true := f
    rw [Bool.and_eq_true] at f'
    exact fines_get (j := j) f'.2 (by simpa using h)
/-- data equal at the depth n -/
def EqN (X : Cx) (H : Hp) (s : Shared) (n : Nat) : Prop := ∀ (A : Around) (d e : D) (x y : V) (v u : Value), A.units + n < cLine → d.deep ≤ n → cmpD d e = true → d.fine = true → e.fine = true → Dat X.K H x d → Dat X.K H y e → RelV x v → RelV y u →
    SeqAt.EqAt A s v u (eqD d e)
theorem rc_of (I : Inv X pins σ H s) {n : Nat} (ih : EqN X H s n) {A : Around} {d e : D} {x y : V} {v u : Value} (hu : A.units + (n + 1) < cLine) (hd : d.deep ≤ n + 1) (hf : d.flat = false) (hc : cmpD d e = true) (fd : d.fine = true) (fe : e.fine = true)
    (dx : Dat X.K H x d) (dy : Dat X.K H y e) (rx : RelV x v) (ry : RelV y u) : SeqAt.RcAt A s v u (eqD d e) ∧ SeqAt.RcNeAt A s v u (!eqD d e) := by
  have kids : ∀ {ds es : List D} {xs ys : List V} {vs us : List Value}, deeps ds ≤ n → cmpDs ds es = true → fines ds = true → fines es = true → DatAll X.K H xs ds → DatAll X.K H ys es → Vals xs vs → Vals ys us →
      ∀ (j : Nat) (p q : Value) (d e : D), vs[j]? = some p → us[j]? = some q → ds[j]? = some d → es[j]? = some e → SeqAt.EqAt A.in1 s p q (eqD d e) := by
    intro ds es xs ys vs us h1 h2 h3 h4 a1 a2 r1 r2 j p q d e hp hq hd he
    obtain ⟨x, hx, dx⟩ := a1.get hd
    obtain ⟨y, hy, dy⟩ := a2.get he
    obtain ⟨p', hp', rp⟩ := r1.get hx
    obtain ⟨q', hq', rq⟩ := r2.get hy
    rw [hp] at hp'
    rw [hq] at hq'
    cases hp'
    cases hq'
    have hu' : A.in1.units + n < cLine := by
      have : A.in1.units ≤ A.units + 1 := Nat.le_refl _
      omega
    exact ih A.in1 d e x y p q hu' (Nat.le_trans (deeps_get hd) h1) (cmpDs_get h2 hd he) (fines_get h3 hd) (fines_get h4 he) dx dy rp rq
  cases d with
  | lst ds =>
    cases e with
    | lst es =>
      cases dx with
      | lst h1 a1 =>
        cases dy with
        | lst h2 a2 =>
          rename_i a xs b ys
          cases rx
          cases ry
          obtain ⟨is, r1, p1, _⟩ := I.list (SqL.of h1)
          obtain ⟨js, r2, p2, _⟩ := I.list (SqL.of h2)
          have l1 := r1.length
          have l2 := r2.length
          have m1 := a1.length
          have m2 := a2.length
          have hd' : deeps ds ≤ n := by
            have : deeps ds + 1 ≤ n + 1 := hd
            omega
          by_cases hl : ds.length = es.length
          · have he : ∀ j (h1 : j < is.toArray.size) (h2 : j < js.toArray.size), SeqAt.EqAt A.in1 s is.toArray[j] js.toArray[j] (eqD (ds.getD j .non) (es.getD j .non)) := fun j h1 h2 => by
              simp only [List.size_toArray] at h1 h2
              have g1 : ds[j]? = some (ds.getD j .non) := by rw [List.getD_eq_getElem?_getD, List.getElem?_eq_getElem (by omega)]; rfl
              have g2 : es[j]? = some (es.getD j .non) := by rw [List.getD_eq_getElem?_getD, List.getElem?_eq_getElem (by omega)]; rfl
              exact kids hd' hc fd fe a1 a2 r1 r2 j _ _ _ _ (by simp [h1]) (by simp [h2]) g1 g2
            have g := SeqAt.RcAt.lists (A := A) (e := fun j => eqD (ds.getD j .non) (es.getD j .non)) p1.isList p2.isList (by simp; omega) (by omega) he
            have g' := SeqAt.RcNeAt.lists (A := A) (e := fun j => eqD (ds.getD j .non) (es.getD j .non)) p1.isList p2.isList (by simp; omega) (by omega) he
            have e1 : (List.range is.toArray.size).all (fun j => eqD (ds.getD j .non) (es.getD j .non)) = eqD (.lst ds) (.lst es) := by
              rw [List.size_toArray, ← l1, m1]
              exact all_range hl fun j d e hd he => by
                rw [List.getD_eq_getElem?_getD, hd, List.getD_eq_getElem?_getD, he]; rfl
            rw [e1] at g g'
            exact ⟨g, g'⟩
          · have e1 : eqD (.lst ds) (.lst es) = false := eqDs_len hl
            rw [e1]
            exact ⟨SeqAt.RcAt.lists_lengths p1.isList p2.isList (by simp; omega) (by omega), SeqAt.RcNeAt.lists_lengths p1.isList p2.isList (by simp; omega) (by omega)⟩
    | _ => cases hc
  | tup ds =>
    cases e with
    | tup es =>
      cases dx with
      | tup h1 a1 =>
        cases dy with
        | tup h2 a2 =>
          rename_i a xs b ys
          cases rx
          cases ry
          obtain ⟨is, r1, p1, _⟩ := I.tuple h1
          obtain ⟨js, r2, p2, _⟩ := I.tuple h2
          have l1 := r1.length
          have l2 := r2.length
          have m1 := a1.length
          have m2 := a2.length
          have hd' : deeps ds ≤ n := by
            have : deeps ds + 1 ≤ n + 1 := hd
            omega
          have he : ∀ j (h1 : j < is.toArray.size) (h2 : j < js.toArray.size), SeqAt.EqAt A.in1 s is.toArray[j] js.toArray[j] (eqD (ds.getD j .non) (es.getD j .non)) := fun j h1 h2 => by
            simp only [List.size_toArray] at h1 h2
            have g1 : ds[j]? = some (ds.getD j .non) := by rw [List.getD_eq_getElem?_getD, List.getElem?_eq_getElem (by omega)]; rfl
            have g2 : es[j]? = some (es.getD j .non) := by rw [List.getD_eq_getElem?_getD, List.getElem?_eq_getElem (by omega)]; rfl
            exact kids hd' hc fd fe a1 a2 r1 r2 j _ _ _ _ (by simp [h1]) (by simp [h2]) g1 g2
          have g := SeqAt.RcAt.tuples (A := A) (e := fun j => eqD (ds.getD j .non) (es.getD j .non)) p1 p2 (by omega) he
          have g' := SeqAt.RcNeAt.tuples (A := A) (e := fun j => eqD (ds.getD j .non) (es.getD j .non)) p1 p2 (by omega) he
          have e1 : ((List.range (min is.toArray.size js.toArray.size)).all (fun j => eqD (ds.getD j .non) (es.getD j .non)) && is.toArray.size == js.toArray.size) = eqD (.tup ds) (.tup es) := by
            rw [List.size_toArray, List.size_toArray, ← l1, ← l2, m1, m2]
            by_cases hl : ds.length = es.length
            · rw [hl, Nat.min_self, beq_self_eq_true, Bool.and_true, ← hl]
              exact all_range hl fun j d e hd he => by
                rw [List.getD_eq_getElem?_getD, hd, List.getD_eq_getElem?_getD, he]; rfl
            · have : (ds.length == es.length) = false := by simpa using hl
              rw [this, Bool.and_false]
              exact (eqDs_len hl).symm
          rw [e1] at g g'
          exact ⟨g, g'⟩
    | _ => cases hc
  | raw _ => cases fd
  | _ => cases hf
theorem eqAt_D (I : Inv X pins σ H s) : ∀ (n : Nat), EqN X H s n := by
  intro n
  induction n with
  | zero =>
    intro A d e x y v u hu hd hc fd fe dx dy rx ry
    have hfl : d.flat = true ∧ e.flat = true := by
      cases d with
      | lst xs => exact absurd hd (by simp [D.deep])
      | tup xs => exact absurd hd (by simp [D.deep])
      | raw _ => cases fd
      | _ => cases e <;> first | exact ⟨rfl, rfl⟩ | cases hc
    obtain ⟨e1, f1⟩ := dx.flatV hfl.1
    obtain ⟨e2, f2⟩ := dy.flatV hfl.2
    rw [eqD_flat hfl.1, ← e1, ← e2]
    exact eqAt_V rx ry f1 f2
  | succ n ih =>
    intro A d e x y v u hu hd hc fd fe dx dy rx ry
    by_cases hf : d.flat = true
    · have hfl : e.flat = true := by
        cases d <;> cases e <;> first | rfl | cases hc | cases hf
      obtain ⟨e1, f1⟩ := dx.flatV hf
      obtain ⟨e2, f2⟩ := dy.flatV hfl
      rw [eqD_flat hf, ← e1, ← e2]
      exact eqAt_V rx ry f1 f2
    · have hf : d.flat = false := by simpa using hf
      have rc := (rc_of I ih hu hd hf hc fd fe dx dy rx ry).1
      obtain ⟨a, b, rfl, rfl⟩ : ∃ a b, x = .ref a ∧ y = .ref b := by
        cases d with
        | lst ds =>
          cases e with
          | lst es =>
            cases dx
            cases dy
            exact ⟨_, _, rfl, rfl⟩
          | _ => cases hc
        | tup ds =>
          cases e with
          | tup es =>
            cases dx
            cases dy
            exact ⟨_, _, rfl, rfl⟩
          | _ => cases hc
        | raw _ => cases fd
        | _ => cases hf
      cases rx
      cases ry
      by_cases hab : a = b
      · subst hab
        have e1 := Dat.inj I dx dy fd fe
        subst e1
        rw [eqD_refl _ fd]
        exact SeqAt.EqAt.same _
      · exact SeqAt.EqAt.of_refs hab rc
end

section
variable {X : Cx} {B : Hp} {k : Nat} {da db : D} {xs : List D}
theorem od_eqD (o : Ok X k) (hf : da.flat = false := by rfl) (hd : da.deep ≤ 60) (hc : cmpD da db = true) (fd : da.fine = true) (fe : db.fine = true) : OpD X (compareOp .Eq) B da db (.bl (eqD da db)) := by
  refine ⟨fun x y H Q => Dat X.K H x da ∧ Dat X.K H y db ∧ Q (.bl (eqD da db)) H, fun pins s σ H x y v u Q I rx ry h => ?_, fun x y H Q _ dx dy q => ⟨dx, dy, q _ H (Same.refl H) (.bl _)⟩⟩
  have hu := o.units
  exact (rc_of I (eqAt_D I 60) (A := X.A) (by omega) (by omega) hf hc fd fe h.1 h.2.1 rx ry).1 X.prog X.w X.xe _ ⟨.bl _, H, I, rfl, h.2.2⟩
theorem od_neD (o : Ok X k) (hf : da.flat = false := by rfl) (hd : da.deep ≤ 60) (hc : cmpD da db = true) (fd : da.fine = true) (fe : db.fine = true) : OpD X (compareOp .NotEq) B da db (.bl (!eqD da db)) := by
  refine ⟨fun x y H Q => Dat X.K H x da ∧ Dat X.K H y db ∧ Q (.bl (!eqD da db)) H, fun pins s σ H x y v u Q I rx ry h => ?_, fun x y H Q _ dx dy q => ⟨dx, dy, q _ H (Same.refl H) (.bl _)⟩⟩
  have hu := o.units
  exact (rc_of I (eqAt_D I 60) (A := X.A) (by omega) (by omega) hf hc fd fe h.1 h.2.1 rx ry).2 X.prog X.w X.xe _ ⟨.bl _, H, I, rfl, h.2.2⟩

/-- x in a list, in a tuple, of data of any depth -/
theorem in_run {pins : List (Addr × Obj)} {σ : L2.St} {H : Hp} {s : Shared} (I : Inv X pins σ H s) (hu : X.A.units + 62 < cLine) (hd : ∀ z ∈ xs, z.deep ≤ 60) (hc : ∀ z ∈ xs, cmpD z da = true) (fx : fines xs = true) (fd : da.fine = true)
    {x : V} {v : Value} {vs : List V} {us : List Value} (dx : Dat X.K H x da) (rx : RelV x v) (dv : DatAll X.K H vs xs) (rv : Vals vs us) :
    ∃ e : Value → Bool, (∀ y, y ∈ us.toArray → SeqAt.EqAt X.A.in1 s y v (e y)) ∧ us.toArray.any e = xs.any fun z => eqD z da := by
  classical
  have one : ∀ (u : Value) (w1 w2 : V) (z1 z2 : D), z1 ∈ xs → z2 ∈ xs → RelV w1 u → RelV w2 u → Dat X.K H w1 z1 → Dat X.K H w2 z2 → z1 = z2 := by
    intro u w1 w2 z1 z2 m1 m2 r1 r2 d1 d2
    have := r1.inj r2
    subst this
    obtain ⟨i1, h1⟩ := List.mem_iff_getElem?.mp m1
    obtain ⟨i2, h2⟩ := List.mem_iff_getElem?.mp m2
    exact Dat.inj I d1 d2 (fines_get fx h1) (fines_get fx h2)
  let e : Value → Bool := fun u => decide (∃ (w : V) (z : D), z ∈ xs ∧ RelV w u ∧ Dat X.K H w z ∧ eqD z da = true)
  have he : ∀ (u : Value) (w : V) (z : D), z ∈ xs → RelV w u → Dat X.K H w z → e u = eqD z da := by
    intro u w z m r d
    cases hz : eqD z da with
    | true => exact decide_eq_true ⟨w, z, m, r, d, hz⟩
    | false =>
      refine decide_eq_false fun ⟨w', z', m', r', d', hz'⟩ => ?_
      rw [one u w' w z' z m' m r' r d' d, hz] at hz'
      cases hz'
  refine ⟨e, fun y hy => ?_, ?_⟩
  · obtain ⟨j, hj⟩ := List.mem_iff_getElem?.mp (by simpa using hy : y ∈ us)
    cases hw : vs[j]? with
    | none =>
      have := rv.none_of hw
      rw [this] at hj
      cases hj
    | some w =>
      obtain ⟨u', hu', ru⟩ := rv.get hw
      rw [hj] at hu'
      cases hu'
      obtain ⟨z, hz, dz⟩ := dv.getV hw
      have hm := List.mem_of_getElem? hz
      rw [he y w z hm ru dz]
      have hA : X.A.in1.units ≤ X.A.units + 1 := Nat.le_refl _
      exact eqAt_D I 60 X.A.in1 z da w x y v (by omega) (hd z hm) (hc z hm) (fines_get fx hz) fd dz dx ru rx
  · have go : ∀ {vs : List V} {us : List Value} {zs : List D}, DatAll X.K H vs zs → Vals vs us → (∀ z ∈ zs, z ∈ xs) → us.any e = zs.any fun z => eqD z da := by
      intro vs us zs h
      induction vs generalizing us zs with
      | nil =>
        intro r _
        cases h
        cases r
        rfl
      | cons w ws ih =>
        intro r hm
        cases h with
        | cons h1 h2 =>
          cases r with
          | cons r1 r2 =>
            rw [List.any_cons, List.any_cons, he _ w _ (hm _ List.mem_cons_self) r1 h1, ih h2 r2 fun z hz => hm z (List.mem_cons_of_mem _ hz)]
    have := go dv rv fun z hz => hz
    simpa using this
def D.items : D → Option (List D)
  | .lst xs => some xs
  | .tup xs => some xs
  | _ => none
theorem od_inD (o : Ok X k) (hx : db.items = some xs) (hd : ∀ z ∈ xs, z.deep ≤ 60) (hc : ∀ z ∈ xs, cmpD z da = true) (fx : fines xs = true) (fd : da.fine = true) : OpD X (compareOp .In) B da db (.bl (xs.any fun z => eqD z da)) := by
  refine ⟨fun x y H Q => Dat X.K H x da ∧ Dat X.K H y db ∧ Q (.bl (xs.any fun z => eqD z da)) H, fun pins s σ H x y v u Q I rx ry h => ?_, fun x y H Q _ dx dy q => ⟨dx, dy, q _ H (Same.refl H) (.bl _)⟩⟩
  have hu := o.units
  obtain ⟨dx, dy, q⟩ := h
  cases dy with
  | lst h1 a1 =>
    have e1 : _ = xs := Option.some.inj hx
    subst e1
    cases ry
    obtain ⟨is, r1, p1, _⟩ := I.list (SqL.of h1)
    obtain ⟨e, h2, h3⟩ := in_run I (by omega) hd hc fx fd dx rx a1 r1
    exact SeqAt.in_listAt e p1.isList h2 ⟨.bl _, H, I, rfl, by rw [h3]; exact q⟩
  | tup h1 a1 =>
    have e1 : _ = xs := Option.some.inj hx
    subst e1
    cases ry
    obtain ⟨is, r1, p1, _⟩ := I.tuple h1
    obtain ⟨e, h2, h3⟩ := in_run I (by omega) hd hc fx fd dx rx a1 r1
    exact SeqAt.in_tupleAt e p1 h2 ⟨.bl _, H, I, rfl, by rw [h3]; exact q⟩
  | _ => cases hx
theorem od_notInD (o : Ok X k) (hx : db.items = some xs) (hd : ∀ z ∈ xs, z.deep ≤ 60) (hc : ∀ z ∈ xs, cmpD z da = true) (fx : fines xs = true) (fd : da.fine = true) : OpD X (compareOp .NotIn) B da db (.bl (!xs.any fun z => eqD z da)) := by
  refine ⟨fun x y H Q => Dat X.K H x da ∧ Dat X.K H y db ∧ Q (.bl (!xs.any fun z => eqD z da)) H, fun pins s σ H x y v u Q I rx ry h => ?_, fun x y H Q _ dx dy q => ⟨dx, dy, q _ H (Same.refl H) (.bl _)⟩⟩
  have hu := o.units
  obtain ⟨dx, dy, q⟩ := h
  cases dy with
  | lst h1 a1 =>
    have e1 : _ = xs := Option.some.inj hx
    subst e1
    cases ry
    obtain ⟨is, r1, p1, _⟩ := I.list (SqL.of h1)
    obtain ⟨e, h2, h3⟩ := in_run I (by omega) hd hc fx fd dx rx a1 r1
    exact SeqAt.notIn_listAt e p1.isList h2 ⟨.bl _, H, I, rfl, by rw [h3]; exact q⟩
  | tup h1 a1 =>
    have e1 : _ = xs := Option.some.inj hx
    subst e1
    cases ry
    obtain ⟨is, r1, p1, _⟩ := I.tuple h1
    obtain ⟨e, h2, h3⟩ := in_run I (by omega) hd hc fx fd dx rx a1 r1
    exact SeqAt.notIn_tupleAt e p1 h2 ⟨.bl _, H, I, rfl, by rw [h3]; exact q⟩
  | _ => cases hx
end
/-! ### names among names -/
theorem any_str {x : S} {xs : List S} : ((xs.map D.str).any fun z => eqD z (.str x)) = decide (x ∈ xs) := by
  induction xs with
  | nil => simp
  | cons y r ih =>
    rw [List.map_cons, List.any_cons, ih]
    show ((y == x) || decide (x ∈ r)) = _
    by_cases h : y = x
    · subst h
      simp
    · have : (y == x) = false := by simpa using h
      rw [this, Bool.false_or]
      have e : (x ∈ y :: r) ↔ x ∈ r := by
        rw [List.mem_cons]
        exact ⟨fun z => z.resolve_left fun q => h q.symm, Or.inr⟩
      exact decide_eq_decide.mpr e.symm
theorem fines_str : ∀ {xs : List S}, fines (xs.map D.str) = true
  | [] => rfl
  | _ :: r => fines_str (xs := r)
section
variable {X : Cx} {B : Hp} {k : Nat} {db : D} {x : S} {xs : List S}
theorem od_inS (o : Ok X k) (hx : db.items = some (xs.map D.str) := by rfl) : OpD X (compareOp .In) B (.str x) db (.bl (decide (x ∈ xs))) := by
  have h := od_inD (B := B) o (da := .str x) hx (fun z hz => by obtain ⟨y, _, rfl⟩ := List.mem_map.mp hz; exact Nat.zero_le _) (fun z hz => by obtain ⟨y, _, rfl⟩ := List.mem_map.mp hz; rfl) fines_str rfl
  rw [any_str] at h
  exact h
theorem od_notInS (o : Ok X k) (hx : db.items = some (xs.map D.str) := by rfl) : OpD X (compareOp .NotIn) B (.str x) db (.bl (!decide (x ∈ xs))) := by
  have h := od_notInD (B := B) o (da := .str x) hx (fun z hz => by obtain ⟨y, _, rfl⟩ := List.mem_map.mp hz; exact Nat.zero_le _) (fun z hz => by obtain ⟨y, _, rfl⟩ := List.mem_map.mp hz; rfl) fines_str rfl
  rw [any_str] at h
  exact h
end
end K74

set_option Elab.async false
set_option linter.all false
set_option maxRecDepth 100000
set_option maxHeartbeats 4000000
/-! K74.KL3: what is walked, comprehensions, targets, calls, blocks, defs. -/
namespace K74
open PySem PySem.Spec PyProof.Rows L2

/-! ### what no list stands in -/
mutual
def D.imm : D → Bool
  | .lst _ => false
  | .tup xs => imms xs
  | _ => true
def imms : List D → Bool
  | [] => true
  | x :: xs => x.imm && imms xs
end
mutual
theorem Dat.keepT {K : PySem.W.Frag} {H H' : Hp} (ht : ∀ a xs, SqT K H a xs → SqT K H' a xs) : ∀ {v : V} {d : D}, Dat K H v d → d.imm = true → Dat K H' v d
  | _, _, .non, _ => .non
  | _, _, .bl b, _ => .bl b
  | _, _, .int i, _ => .int i
  | _, _, .str x, _ => .str x
  | _, _, .lst _ _, h => by cases h
  | _, _, .tup h t, hi => .tup (ht _ _ h) (DatAll.keepT ht t hi)
  | _, _, .raw v, _ => .raw v
theorem DatAll.keepT {K : PySem.W.Frag} {H H' : Hp} (ht : ∀ a xs, SqT K H a xs → SqT K H' a xs) : ∀ {vs : List V} {ds : List D}, DatAll K H vs ds → imms ds = true → DatAll K H' vs ds
  | _, _, .nil, _ => .nil
  | _, _, .cons (d := d) (ds := ds) h t, hi => by
    have hi' : (d.imm && imms ds) = true := hi
    rw [Bool.and_eq_true] at hi'
    exact .cons (Dat.keepT ht h hi'.1) (DatAll.keepT ht t hi'.2)
end
/-- a list is written: tuples stay -/
theorem upd_keepT {K : PySem.W.Frag} {H : Hp} {p : Addr} {ys : List V} {o : HO} (hp : H p = some (.lst ys)) : ∀ a xs, SqT K H a xs → SqT K (upd H p o) a xs := by
  intro a xs h
  rcases h with h | h
  · have ne : a ≠ p := fun e => by
      subst e
      rcases h with h | ⟨_, h⟩ <;> (rw [hp] at h; cases h)
    rcases h with h | ⟨ob, h⟩
    · exact .inl (.inl (by rw [upd_ne ne]; exact h))
    · exact .inl (.inr ⟨ob, by rw [upd_ne ne]; exact h⟩)
  · exact .inr h
theorem imms_append : ∀ {xs ys : List D}, imms xs = true → imms ys = true → imms (xs ++ ys) = true
  | [], _, _, h => h
  | x :: xs, ys, h, h2 => by
    have h' : (x.imm && imms xs) = true := h
    rw [Bool.and_eq_true] at h'
    show (x.imm && imms (xs ++ ys)) = true
    rw [h'.1, imms_append h'.2 h2]
    rfl
theorem imms_map {α : Type} {f : α → D} : ∀ {xs : List α}, (∀ x ∈ xs, (f x).imm = true) → imms (xs.map f) = true
  | [], _ => rfl
  | x :: xs, h => by
    show ((f x).imm && imms (xs.map f)) = true
    rw [h x List.mem_cons_self, imms_map fun y hy => h y (List.mem_cons_of_mem _ hy)]
    rfl
theorem imms_strs {xs : List S} : imms (xs.map D.str) = true := imms_map fun _ _ => rfl

/-! ### what is walked -/
/-- the turns yield the data ds, and leave what stood -/
def JOk (K : PySem.W.Frag) (J : It) (H1 : Hp) (ds : List D) : Prop := ∀ H', Same H1 H' → (∀ i d, ds[i]? = some d → J.go i H' ∧ ∀ v H'', J.yld i H' v H'' → Same H' H'' ∧ Dat K H'' v d) ∧ ∀ i, ds.length ≤ i → J.stop i H'
structure SI (X : Cx) (tg e : Expr) (B : Hp) (ρ : Rho) (ds : List D) : Prop where
  ex : ∃ wi, PI X tg e wi ∧ ∀ σ H R, EnvR X.K B ρ σ H → (∀ J H1, Same H H1 → JOk X.K J H1 ds → R J H1) → wi σ H R
section
variable {X : Cx} {B : Hp} {ρ : Rho} {k : Nat} {e a b c tg : Expr} {es : List Expr} {pos : Pos} {d da db : D} {ds : List D}
theorem si_lst (h : EE X e B ρ (.lst ds)) : SI X tg e B ρ ds := ⟨_, pi_list h, fun σ H R he q => ⟨he, fun v H1 s1 dv => by
  cases dv with
  | lst h1 a1 =>
    refine ⟨_, rfl, ⟨_, SqL.of h1⟩, q _ H1 s1 fun H' s' => ⟨fun i d hd => ?_, fun i hi => ⟨_, SqL.of (s' _ _ h1), by rw [a1.length]; exact hi⟩⟩⟩
    obtain ⟨v, hv, dv⟩ := a1.get hd
    exact ⟨⟨_, v, SqL.of (s' _ _ h1), hv⟩, fun v' H'' ⟨e1, e2⟩ => by
      subst e1
      have := e2 _ (SqL.of (s' _ _ h1))
      rw [hv] at this
      cases this
      exact ⟨Same.refl _, dv.mono s'⟩⟩⟩⟩
theorem si_tup (h : EE X e B ρ (.tup ds)) : SI X tg e B ρ ds := ⟨_, pi_tup h, fun σ H R he q => ⟨he, fun v H1 s1 dv => by
  cases dv with
  | tup h1 a1 =>
    refine ⟨_, rfl, ⟨_, h1⟩, q _ H1 s1 fun H' s' => ⟨fun i d hd => ?_, fun i hi => ⟨_, Same.seqT s' h1, by rw [a1.length]; exact hi⟩⟩⟩
    obtain ⟨v, hv, dv⟩ := a1.get hd
    exact ⟨⟨_, v, Same.seqT s' h1, hv⟩, fun v' H'' ⟨e1, e2⟩ => by
      subst e1
      have := e2 _ (Same.seqT s' h1)
      rw [hv] at this
      cases this
      exact ⟨Same.refl _, dv.mono s'⟩⟩⟩⟩
theorem si_range {n : Nat} {p : Pos} (hm : X.mg "range" = none) (h : EE X a B ρ (.int (n : Int))) (hn : n ≤ 1000000) (hg : Gl X "range" := by rfl) (hs : starEach [a] X.env = [(false, eval a X.env)] := by rfl) :
    SI X tg (.Call (.Name "range" p) [a] [] pos) B ρ ((List.range n).map fun i => .int (i : Nat)) :=
  ⟨_, pi_range1 hg hm (pa_cons h pa_nil hs) hs, fun σ H R he q => ⟨he, fun v H1 s1 dv => by
    cases dv
    refine ⟨(n : Int), rfl, by omega, by omega, q _ H1 s1 fun H' s' => ⟨fun i d hd => ?_, fun i hi => ?_⟩⟩
    · rw [List.getElem?_map] at hd
      have hi : i < n := by
        cases h : (List.range n)[i]? with
        | none => rw [h] at hd; cases hd
        | some j =>
          have := (List.getElem?_eq_some_iff.mp h).1
          simpa using this
      rw [List.getElem?_range hi] at hd
      cases hd
      refine ⟨?_, fun v' H'' ⟨e1, e2⟩ => ?_⟩
      · show i < (n : Int).toNat
        simpa using hi
      · subst e1
        subst e2
        refine ⟨Same.refl _, ?_⟩
        have : (0 : Int) + (i : Int) = (i : Int) := Int.zero_add _
        rw [this]
        exact .int _
    · show (n : Int).toNat ≤ i
      simpa using hi⟩⟩
theorem si_str {z : S} (h : EE X e B ρ (.str z)) : SI X tg e B ρ (z.cps.toList.map fun c => .str ⟨#[c]⟩) := ⟨_, pi_str h, fun σ H R he q => ⟨he, fun v H1 s1 dv => by
  cases dv
  refine ⟨z, rfl, q _ H1 s1 fun H' s' => ⟨fun i d hd => ?_, fun i hi => by
    show z.cps.size ≤ i
    simpa using hi⟩⟩
  rw [List.getElem?_map] at hd
  cases h : z.cps.toList[i]? with
  | none => rw [h] at hd; cases hd
  | some c =>
    rw [h] at hd
    cases hd
    have hi := (List.getElem?_eq_some_iff.mp h).1
    have hc : z.cps[i]? = some c := by simpa using h
    have hi' : i < z.cps.size := by simpa using hi
    refine ⟨hi', fun v' H'' ⟨e1, c', hc', e2⟩ => ?_⟩
    subst e1
    subst e2
    rw [hc] at hc'
    cases hc'
    exact ⟨Same.refl _, .str _⟩⟩⟩
end

/-! ### the targets -/
theorem wipe_get {σ : L2.St} {j : Nat} : ∀ {vs : List Nat}, (wipe σ vs)[j]? = if j ∈ vs then (if j < σ.length then some none else none) else σ[j]?
  | [] => by simp [wipe]
  | v :: vs => by
    unfold wipe
    by_cases h : v = j
    · subst h
      rw [if_pos List.mem_cons_self, List.getElem?_set]
      simp [wipe_length]
    · rw [List.getElem?_set_ne h, wipe_get]
      have : j ∈ v :: vs ↔ j ∈ vs := by
        rw [List.mem_cons]
        exact ⟨fun z => z.resolve_left fun e => h e.symm, Or.inr⟩
      simp only [this]
theorem wipe_eq {σ τ : L2.St} {vs : List Nat} (hl : σ.length = τ.length) (h : ∀ j, j ∉ vs → σ[j]? = τ[j]?) : wipe σ vs = wipe τ vs := by
  apply List.ext_getElem?
  intro j
  rw [wipe_get, wipe_get, hl]
  split
  · rfl
  · rename_i hj
    exact h j hj
/-- a target that takes the data d from the env ρ to ρ' (its places vs) -/
def TgOk (K : PySem.W.Frag) (B : Hp) (g : TG) (vs : List Nat) (ρ : Rho) (d : D) (ρ' : Rho) : Prop :=
  ∀ (σ : L2.St) (H : Hp) (v : V) (Q : L2.St → Hp → Prop), EnvR K B ρ σ H → Dat K H v d → (∀ σ2, EnvR K B ρ' σ2 H → σ2.length = σ.length → (∀ j, j ∉ vs → σ2[j]? = σ[j]?) → Q σ2 H) → g v σ H Q
theorem tg_name {K : PySem.W.Frag} {B : Hp} {i : Nat} {ρ : Rho} {d : D} : TgOk K B (gName i) [i] ρ d (ρ.set i (some d)) := fun σ H v Q he dv q =>
  q _ (he.set dv) (List.length_set ..) fun j hj => List.getElem?_set_ne (fun e => hj (by simp [e]))
theorem tg_two {K : PySem.W.Frag} {B : Hp} {i j : Nat} {ρ : Rho} {d1 d2 : D} : TgOk K B (gTup K 2 (gCons (gName i) (gCons (gName j) gNil))) [i, j] ρ (.tup [d1, d2]) ((ρ.set i (some d1)).set j (some d2)) := fun σ H v Q he dv q => by
  cases dv with
  | tup h a =>
    cases a with
    | cons a1 a =>
      cases a with
      | cons a2 a =>
        cases a
        exact ⟨_, _, rfl, h, rfl, _, _, rfl, _, _, rfl, rfl, q _ ((he.set a1).set a2) (by simp) fun l hl => by
          rw [List.getElem?_set_ne (fun e => hl (by simp [e])), List.getElem?_set_ne (fun e => hl (by simp [e]))]⟩
theorem tg_three {K : PySem.W.Frag} {B : Hp} {i j l : Nat} {ρ : Rho} {d1 d2 d3 : D} : TgOk K B (gTup K 3 (gCons (gName i) (gCons (gName j) (gCons (gName l) gNil)))) [i, j, l] ρ (.tup [d1, d2, d3]) (((ρ.set i (some d1)).set j (some d2)).set l (some d3)) := fun σ H v Q he dv q => by
  cases dv with
  | tup h a =>
    cases a with
    | cons a1 a =>
      cases a with
      | cons a2 a =>
        cases a with
        | cons a3 a =>
          cases a
          exact ⟨_, _, rfl, h, rfl, _, _, rfl, _, _, rfl, _, _, rfl, rfl, q _ (((he.set a1).set a2).set a3) (by simp) fun m hl => by
            rw [List.getElem?_set_ne (fun e => hl (by simp [e])), List.getElem?_set_ne (fun e => hl (by simp [e])), List.getElem?_set_ne (fun e => hl (by simp [e]))]⟩
/-- the block's own names forgotten -/
theorem EnvR.wipe {K : PySem.W.Frag} {B : Hp} {ρ : Rho} {σ : L2.St} {H : Hp} {vs : List Nat} (h : EnvR K B ρ σ H) (hv : ∀ i ∈ vs, ρ[i]? = some none ∨ ρ[i]? = none) : EnvR K B ρ (wipe σ vs) H := by
  refine ⟨h.1, fun i d hi => ?_, by rw [wipe_length]; exact h.2.2⟩
  have hn : i ∉ vs := fun hm => by
    rcases hv i hm with e | e <;> (rw [e] at hi; cases hi)
  rw [wipe_out hn]
  exact h.2.1 i d hi

/-! ### comprehensions -/
/-- an expression by a parameter -/
def tF {α : Type} (K : PySem.W.Frag) (pre : α → Prop) (B : α → Hp) (ρ : α → Rho) (f : α → D) : TE := fun σ H Q => ∃ x, pre x ∧ EnvR K (B x) (ρ x) σ H ∧ ∀ v H', Same H H' → Dat K H' v (f x) → Q v H'
def tFT {α : Type} (K : PySem.W.Frag) (pre : α → Prop) (B : α → Hp) (ρ : α → Rho) (f : α → Bool) : TT := fun σ H Q => ∃ x, pre x ∧ EnvR K (B x) (ρ x) σ H ∧ ∀ H', Same H H' → Q (f x) H'
theorem pe_F {α : Type} {X : Cx} {e : Expr} {pre : α → Prop} {B : α → Hp} {ρ : α → Rho} {f : α → D} (h : ∀ x, pre x → EE X e (B x) (ρ x) (f x)) : PE X e (tF X.K pre B ρ f) :=
  ⟨fun pins s σ H Q I ⟨x, hp, he, q⟩ => (h x hp).run pins s σ H Q I ⟨he, q⟩⟩
theorem pt_F {α : Type} {X : Cx} {e : Expr} {pre : α → Prop} {B : α → Hp} {ρ : α → Rho} {f : α → Bool} (h : ∀ x, pre x → ET X e (B x) (ρ x) (f x)) : PT X e (tFT X.K pre B ρ f) :=
  ⟨fun pins s σ H Q I ⟨x, hp, he, q⟩ => (h x hp).run pins s σ H Q I ⟨he, q⟩⟩
/-- a clause's tests -/
structure ETs (X : Cx) (ifs : List Expr) (B : Hp) (ρ : Rho) (b : Bool) : Prop where
  ex : PTs X ifs (tDT X.K B ρ b)
theorem ets_nil {X : Cx} {B : Hp} {ρ : Rho} : ETs X [] B ρ true := ⟨⟨fun pins s σ H Q I q => pts_nil.run pins s σ H Q I (q.2 H (Same.refl H))⟩⟩
theorem ets_one {X : Cx} {c : Expr} {B : Hp} {ρ : Rho} {b : Bool} (h : ET X c B ρ b) : ETs X [c] B ρ b := ⟨pts_one h⟩
theorem pts_F {α : Type} {X : Cx} {ifs : List Expr} {pre : α → Prop} {B : α → Hp} {ρ : α → Rho} {f : α → Bool} (h : ∀ x, pre x → ETs X ifs (B x) (ρ x) (f x)) : PTs X ifs (tFT X.K pre B ρ f) :=
  ⟨fun pins s σ H Q I ⟨x, hp, he, q⟩ => (h x hp).ex.run pins s σ H Q I ⟨he, q⟩⟩

section
variable {X : Cx} {B : Hp} {ρ : Rho} {k : Nat} {elt tg iter : Expr} {ifs : List Expr} {scope : Scope} {pos : Pos} {own : List (S × Nat)} {g : TG} {α : Type}
/-- the reading of a comprehension -/
theorem lc_read {K : PySem.W.Frag} {wi : TI} {enc : α → D} {xs : List α} {ρ' : α → Rho} {p : α → Bool} {f : α → D} {vs : List Nat} {σ : L2.St} {H : Hp} {Q : VK}
    (hwi : ∀ σ H R, EnvR K B ρ σ H → (∀ J H1, Same H H1 → JOk K J H1 (xs.map enc) → R J H1) → wi σ H R) (hv : ∀ i ∈ vs, ρ[i]? = some none ∨ ρ[i]? = none)
    (hg : ∀ x ∈ xs, TgOk K B g vs ρ (enc x) (ρ' x)) (him : ∀ x ∈ xs, (f x).imm = true) (hl : xs.length < sizeLine) (he : EnvR K B ρ σ H) (q : ∀ r ws H', H r = none → Same H H' → H' r = some (.lst ws) → DatAll K H' ws ((xs.filter p).map f) → Q (.ref r) H') :
    tLc wi g (tFT K (fun x => x ∈ xs) (fun _ => B) ρ' p) (tF K (fun x => x ∈ xs ∧ p x = true) (fun _ => B) ρ' f) vs σ H Q := by
  refine hwi σ H _ he fun J H1 s1 hJ Dl hD => ?_
  let Pv : Nat → Hp → Prop := fun i H => Same H1 H ∧ ∃ ws, H Dl = some (.lst ws) ∧ DatAll K H ws (((xs.take i).filter p).map f)
  refine ⟨fun i m H => m = xs.length - i ∧ i ≤ xs.length ∧ Pv i H, ⟨xs.length, by simp, Nat.zero_le _, Same.new hD, [], upd_same, .nil⟩, ?_⟩
  rintro i m H2 ⟨rfl, hi, s2, ws, hws, hd⟩
  obtain ⟨j1, j2⟩ := hJ H2 s2
  by_cases hlt : i < xs.length
  · have hx : xs[i]? = some xs[i] := List.getElem?_eq_getElem hlt
    generalize xs[i] = x at hx
    have hm : x ∈ xs := List.mem_of_getElem? hx
    obtain ⟨jg, jy⟩ := j1 i (enc x) (by rw [List.getElem?_map, hx]; rfl)
    have htk : xs.take (i + 1) = xs.take i ++ [x] := by rw [List.take_add_one, hx]; rfl
    refine .inr ⟨jg, Pv (i + 1), fun H' p' => ⟨xs.length - (i + 1), by omega, rfl, hlt, p'⟩, fun v H3 hy => ?_⟩
    obtain ⟨s3, dv⟩ := jy v H3 hy
    have he3 : EnvR K B ρ (wipe σ vs) H3 := (((he.mono s1).mono s2).mono s3).wipe hv
    refine hg x hm _ _ _ _ he3 dv fun σ2 he2 hl2 hj2 => ⟨?_, x, hm, he2, fun H4 s4 => ?_⟩
    · have e1 : wipe σ2 vs = wipe (wipe σ vs) vs := wipe_eq hl2 hj2
      rw [e1]
      apply List.ext_getElem?
      intro j
      rw [wipe_get, wipe_get, wipe_length]
      split <;> rfl
    · cases hp : p x with
      | true =>
        refine ⟨x, ⟨hm, hp⟩, he2.mono s4, fun w H5 s5 dw => ⟨ws, s5 _ _ (s4 _ _ (s3 _ _ hws)), ?_, ?_, ws ++ [w], upd_same, ?_⟩⟩
        · have e1 := hd.length
          rw [List.length_map] at e1
          have e2 := List.length_filter_le p (xs.take i)
          rw [List.length_take] at e2
          omega
        · intro b o hb
          have ne : b ≠ Dl := ne_of_none hb hD
          rw [upd_ne ne]
          exact s5 _ _ (s4 _ _ (s3 _ _ (s2 _ _ hb)))
        · rw [htk, List.filter_append, List.map_append]
          have e1 : ([x].filter p).map f = [f x] := by rw [List.filter_cons, hp]; rfl
          rw [e1]
          have kT := upd_keepT (K := K) (o := .lst (ws ++ [w])) (s5 _ _ (s4 _ _ (s3 _ _ hws)))
          refine ((DatAll.keepT kT ((hd.mono s3).mono (s4.trans s5)) (imms_map fun y hy => him y (List.mem_of_mem_take (List.mem_filter.mp hy).1))).append (.one (Dat.keepT kT dw (him x hm))))
      | false =>
        refine ⟨((s2.trans s3).trans s4), ws, s4 _ _ (s3 _ _ hws), ?_⟩
        rw [htk, List.filter_append, List.map_append]
        have e1 : ([x].filter p).map f = [] := by rw [List.filter_cons, hp]; rfl
        rw [e1, List.append_nil]
        exact hd.mono (s3.trans s4)
  · have e : i = xs.length := by omega
    subst e
    refine .inl ⟨j2 _ (by simp), q _ _ _ (s1.free hD) (s1.trans s2) hws ?_⟩
    rw [List.take_length] at hd
    exact hd
/-- a comprehension that makes the list ds -/
structure LC (X : Cx) (elt tg iter : Expr) (ifs : List Expr) (scope : Scope) (B : Hp) (ρ : Rho) (ds : List D) : Prop where
  ex : ∃ (own : List (S × Nat)) (wi : TI) (g : TG) (tt : TT) (te : TE), PI X tg iter wi ∧ BlkOk X.N X.env.scope scope own ∧
    (∀ (s : Shared) (H : Hp) (C : Addr) (cl : List (S × Addr)) (fp : List Addr), PG (X.blk s H scope (compEnvC scope cl C X.env) fp) tg g) ∧
    (∀ (s : Shared) (H : Hp) (C : Addr) (cl : List (S × Addr)) (fp : List Addr), PTs (X.blk s H scope (compEnvC scope cl C X.env) fp) ifs tt) ∧
    (∀ (s : Shared) (H : Hp) (C : Addr) (cl : List (S × Addr)) (fp : List Addr), PE (X.blk s H scope (compEnvC scope cl C X.env) fp) elt te) ∧
    (∀ x, foldedSetIterable iter X.env x = pure x) ∧ ∀ σ H Q, EnvR X.K B ρ σ H → (∀ p ws H', H p = none → Same H H' → H' p = some (.lst ws) → DatAll X.K H' ws ds → Q (.ref p) H') → tLc wi g tt te (own.map (·.2)) σ H Q
/-- [elt for tg in iter if ..] -/
theorem lc_mk {enc : α → D} {xs : List α} {ρ' : α → Rho} {p : α → Bool} {f : α → D} (own : List (S × Nat)) (ok : BlkOk X.N X.env.scope scope own) (hi : SI X tg iter B ρ (xs.map enc))
    (hg : ∀ (s : Shared) (H : Hp) (C : Addr) (cl : List (S × Addr)) (fp : List Addr), PG (X.blk s H scope (compEnvC scope cl C X.env) fp) tg g) (hgo : ∀ x ∈ xs, TgOk X.K B g (own.map (·.2)) ρ (enc x) (ρ' x))
    (ht : ∀ (s : Shared) (H : Hp) (C : Addr) (cl : List (S × Addr)) (fp : List Addr) (x : α), x ∈ xs → ETs (X.blk s H scope (compEnvC scope cl C X.env) fp) ifs B (ρ' x) (p x))
    (he : ∀ (s : Shared) (H : Hp) (C : Addr) (cl : List (S × Addr)) (fp : List Addr) (x : α), x ∈ xs → p x = true → EE (X.blk s H scope (compEnvC scope cl C X.env) fp) elt B (ρ' x) (f x))
    (hv : ∀ i ∈ own.map (·.2), ρ[i]? = some none ∨ ρ[i]? = none) (him : ∀ x ∈ xs, (f x).imm = true) (hl : xs.length < sizeLine) (hs : ∀ x, foldedSetIterable iter X.env x = pure x := by intro _; rfl) :
    LC X elt tg iter ifs scope B ρ ((xs.filter p).map f) := by
  obtain ⟨wi, h1, h2⟩ := hi.ex
  exact ⟨own, wi, g, _, _, h1, ok, hg, (fun s H C cl fp => pts_F (pre := fun x => x ∈ xs) (B := fun _ => B) fun x hx => ht s H C cl fp x hx), (fun s H C cl fp => pe_F (pre := fun x => x ∈ xs ∧ p x = true) (B := fun _ => B) fun x hx => he s H C cl fp x hx.1 hx.2), hs,
    fun σ H Q h q => lc_read h2 hv hgo him hl h q⟩
theorem LC.is {ds ds' : List D} (h : LC X elt tg iter ifs scope B ρ ds) (e : ds = ds') : LC X elt tg iter ifs scope B ρ ds' := e ▸ h
end
end K74

set_option Elab.async false
set_option linter.all false
set_option maxRecDepth 100000
set_option maxHeartbeats 4000000
/-! K74.KL4: comprehensions with two clauses. -/
namespace K74
open PySem PySem.Spec PyProof.Rows L2

/-- the heap without the list that is being made -/
def hide (H : Hp) (p : Addr) : Hp := fun a => if a = p then none else H a
theorem hide_same (H : Hp) (p : Addr) : Same (hide H p) H := fun b o e => by
  unfold hide at e
  split at e
  · cases e
  · exact e
theorem hide_of {H0 H : Hp} {p : Addr} (s : Same H0 H) (h : H0 p = none) : Same H0 (hide H p) := fun b o e => by
  have ne : b ≠ p := ne_of_none e h
  unfold hide
  rw [if_neg ne]
  exact s b o e
theorem hide_upd (H : Hp) (p : Addr) (o : HO) : hide (upd H p o) p = hide H p := by
  funext a
  unfold hide upd
  by_cases h : a = p <;> simp [h]
theorem hide_T {K : PySem.W.Frag} {H : Hp} {p : Addr} {ys : List V} (hp : H p = some (.lst ys)) : ∀ a xs, SqT K H a xs → SqT K (hide H p) a xs := by
  intro a xs h
  rcases h with h | h
  · have ne : a ≠ p := fun e => by
      subst e
      rcases h with h | ⟨_, h⟩ <;> (rw [hp] at h; cases h)
    rcases h with h | ⟨ob, h⟩
    · exact .inl (.inl (by unfold hide; rw [if_neg ne]; exact h))
    · exact .inl (.inr ⟨ob, by unfold hide; rw [if_neg ne]; exact h⟩)
  · exact .inr h
/-- a list that is walked within a comprehension, another than the one that is made -/
structure EL1 {α : Type} (X : Cx) (e : Expr) (pre : α → Prop) (B : Hp) (ρ : α → Rho) (ds : α → List D) : Prop where
  ex : ∃ t, PE X e t ∧ ∀ (σ : L2.St) (H : Hp) (p : Addr) (ys : List V) (Q : VK), H p = some (.lst ys) → B p = none →
    (∃ x, pre x ∧ EnvR X.K B (ρ x) σ (hide H p) ∧ ∀ a vs H', Same H H' → a ≠ p → H' a = some (.lst vs) → DatAll X.K H' vs (ds x) → Q (.ref a) H') → t σ H Q
theorem el1_var {α : Type} {X : Cx} {B : Hp} {pre : α → Prop} {ρ : α → Rho} {ds : α → List D} {pos : Pos} (i : Nat) {x : S} (hρ : ∀ z, pre z → (ρ z)[i]? = some (some (.lst (ds z)))) (hN : X.N[i]? = some x := by rfl)
    (hv : Vis X.env.scope x := by first | exact Or.inl rfl | exact Or.inr (Or.inl rfl) | exact Or.inr (Or.inr rfl)) (hd : (x == ("__debug__" : Str)) = false := by decide) (hcd : (x == ("__classdict__" : Str)) = false := by decide) : EL1 X (.Name x pos) pre B ρ ds :=
  ⟨_, pe_var hN hv hd hcd, fun σ H p ys Q hp _ ⟨z, hz, he, q⟩ => by
    obtain ⟨v, h1, h2⟩ := he.2.1 i _ (hρ z hz)
    cases h2 with
    | lst h a =>
      rename_i b vs
      have ne : b ≠ p := fun e => by
        subst e
        unfold hide at h
        rw [if_pos rfl] at h
        cases h
      exact ⟨_, h1, q b vs H (Same.refl H) ne (hide_same _ _ _ _ h) (a.mono (hide_same _ _))⟩⟩
/-- an expression that makes a new list -/
def tN (K : PySem.W.Frag) (B : Hp) (ρ : Rho) (ds : List D) : TE := fun σ H Q => EnvR K B ρ σ H ∧ ∀ p vs H', H p = none → Same H H' → H' p = some (.lst vs) → DatAll K H' vs ds → Q (.ref p) H'
abbrev EN (X : Cx) (e : Expr) (B : Hp) (ρ : Rho) (ds : List D) : Prop := PE X e (tN X.K B ρ ds)
theorem EN.ee {X : Cx} {e : Expr} {B : Hp} {ρ : Rho} {ds : List D} (h : EN X e B ρ ds) : EE X e B ρ (.lst ds) := PE.weak h fun σ H Q q => ⟨q.1, fun p vs H' hp s hl hd => q.2 _ H' s (.lst hl hd)⟩
def tNF {α : Type} (K : PySem.W.Frag) (pre : α → Prop) (B : Hp) (ρ : α → Rho) (ds : α → List D) : TE := fun σ H Q => ∃ x, pre x ∧ EnvR K B (ρ x) σ H ∧ ∀ p vs H', H p = none → Same H H' → H' p = some (.lst vs) → DatAll K H' vs (ds x) → Q (.ref p) H'
theorem el1_new {α : Type} {X : Cx} {e : Expr} {B : Hp} {pre : α → Prop} {ρ : α → Rho} {ds : α → List D} (h : ∀ x, pre x → EN X e B (ρ x) (ds x)) : EL1 X e pre B ρ ds :=
  ⟨tNF X.K pre B ρ ds, ⟨fun pins s σ H Q I ⟨x, hp, he, q⟩ => (h x hp).run pins s σ H Q I ⟨he, q⟩⟩, fun σ H p ys Q hp _ ⟨z, hz, he, q⟩ => ⟨z, hz, he.mono (hide_same _ _), fun a vs H' ha s hl hd => q a vs H' s (fun e => by
    subst e
    rw [hp] at ha
    cases ha) hl hd⟩⟩
/-- a list that stood in B -/
theorem el1_old {α : Type} {X : Cx} {e : Expr} {B : Hp} {pre : α → Prop} {ρ : α → Rho} {ds : α → List D} (h : ∀ x, pre x → ∃ a vs, EE X e B (ρ x) (.raw (.ref a)) ∧ B a = some (.lst vs) ∧ DatAll X.K B vs (ds x)) : EL1 X e pre B ρ ds := by
  refine ⟨fun σ H Q => ∃ x, pre x ∧ ∃ a vs, B a = some (.lst vs) ∧ DatAll X.K B vs (ds x) ∧ EE X e B (ρ x) (.raw (.ref a)) ∧ tD X.K B (ρ x) (.raw (.ref a)) σ H Q, ⟨fun pins s σ H Q I ⟨x, hp, a, vs, h1, h2, h3, q⟩ => h3.run pins s σ H Q I q⟩, fun σ H p ys Q hp hB ⟨z, hz, he, q⟩ => ?_⟩
  obtain ⟨a, vs, h1, h2, h3⟩ := h z hz
  have he' := he.mono (hide_same H p)
  refine ⟨z, hz, a, vs, h2, h3, h1, he', fun v H' s dv => ?_⟩
  cases dv
  exact q a vs H' s (ne_of_none h2 hB) (s _ _ (he'.1 _ _ h2)) (h3.mono (he'.1.trans s))

section
variable {X : Cx} {B : Hp} {ρ : Rho} {k : Nat} {elt iter iter1 : Expr} {ifs ifs1 : List Expr} {scope : Scope} {pos px py : Pos} {x1 y1 : S} {i1 j1 : Nat} {α β : Type}
theorem filter_flat {xs : List α} {i : Nat} {x : α} {p : α → Bool} {h : α → List D} (hx : xs[i]? = some x) :
    ((xs.take (i + 1)).filter p).flatMap h = ((xs.take i).filter p).flatMap h ++ (if p x = true then h x else []) := by
  rw [List.take_add_one, hx]
  show ((xs.take i ++ [x]).filter p).flatMap h = _
  rw [List.filter_append, List.flatMap_append]
  congr 1
  cases hp : p x with
  | true => simp [hp]
  | false => simp [hp]
structure LC2 (X : Cx) (elt tg iter tg1 iter1 : Expr) (ifs ifs1 : List Expr) (scope : Scope) (B : Hp) (ρ : Rho) (ds : List D) : Prop where
  ex : ∃ (own : List (S × Nat)) (vs1 : List Nat) (wi wi1 : TI) (g g1 : TG) (tt tt1 : TT) (te : TE), PI X tg iter wi ∧ BlkOk X.N X.env.scope scope own ∧ (∀ i ∈ vs1, i ∈ own.map (·.2)) ∧
    (∀ (s : Shared) (H : Hp) (C : Addr) (cl : List (S × Addr)) (fp : List Addr), PG (X.blk s H scope (compEnvC scope cl C X.env) fp) tg g) ∧
    (∀ (s : Shared) (H : Hp) (C : Addr) (cl : List (S × Addr)) (fp : List Addr), PTs (X.blk s H scope (compEnvC scope cl C X.env) fp) ifs tt) ∧
    (∀ (s : Shared) (H : Hp) (C : Addr) (cl : List (S × Addr)) (fp : List Addr), PI (X.blk s H scope (compEnvC scope cl C X.env) fp) tg1 iter1 wi1) ∧
    (∀ (s : Shared) (H : Hp) (C : Addr) (cl : List (S × Addr)) (fp : List Addr), PG (X.blk s H scope (compEnvC scope cl C X.env) fp) tg1 g1) ∧
    (∀ (s : Shared) (H : Hp) (C : Addr) (cl : List (S × Addr)) (fp : List Addr), PTs (X.blk s H scope (compEnvC scope cl C X.env) fp) ifs1 tt1) ∧
    (∀ (s : Shared) (H : Hp) (C : Addr) (cl : List (S × Addr)) (fp : List Addr), PE (X.blk s H scope (compEnvC scope cl C X.env) fp) elt te) ∧
    (∀ x, foldedSetIterable iter X.env x = pure x) ∧ (∀ env x, foldedSetIterable iter1 env x = pure x) ∧
    ∀ σ H Q, EnvR X.K B ρ σ H → (∀ p ws H', H p = none → Same H H' → H' p = some (.lst ws) → DatAll X.K H' ws ds → Q (.ref p) H') → tLc2 wi g tt wi1 g1 tt1 te (own.map (·.2)) vs1 σ H Q
/-- [elt for x in iter if .. for y in iter1 if ..] -/
theorem lc2_mk {enc : α → D} {xs : List α} {p : α → Bool} {ys : α → List β} {enc1 : α → β → D} {p1 : α → β → Bool} {f : α → β → D} (ok : BlkOk X.N X.env.scope scope [(x1, i1), (y1, j1)]) (hij : i1 ≠ j1)
    (hi : SI X (.Name x1 px) iter B ρ (xs.map enc))
    (hg : ∀ (s : Shared) (H : Hp) (C : Addr) (cl : List (S × Addr)) (fp : List Addr), PG (X.blk s H scope (compEnvC scope cl C X.env) fp) (.Name x1 px) (gName i1))
    (ht : ∀ (s : Shared) (H : Hp) (C : Addr) (cl : List (S × Addr)) (fp : List Addr) (x : α), x ∈ xs → ETs (X.blk s H scope (compEnvC scope cl C X.env) fp) ifs B (ρ.set i1 (some (enc x))) (p x))
    (hi1 : ∀ (s : Shared) (H : Hp) (C : Addr) (cl : List (S × Addr)) (fp : List Addr), EL1 (X.blk s H scope (compEnvC scope cl C X.env) fp) iter1 (fun x => x ∈ xs ∧ p x = true) B (fun x => ρ.set i1 (some (enc x))) (fun x => (ys x).map (enc1 x)))
    (hg1 : ∀ (s : Shared) (H : Hp) (C : Addr) (cl : List (S × Addr)) (fp : List Addr), PG (X.blk s H scope (compEnvC scope cl C X.env) fp) (.Name y1 py) (gName j1))
    (ht1 : ∀ (s : Shared) (H : Hp) (C : Addr) (cl : List (S × Addr)) (fp : List Addr) (x : α) (y : β), x ∈ xs → p x = true → y ∈ ys x → ETs (X.blk s H scope (compEnvC scope cl C X.env) fp) ifs1 B ((ρ.set i1 (some (enc x))).set j1 (some (enc1 x y))) (p1 x y))
    (he : ∀ (s : Shared) (H : Hp) (C : Addr) (cl : List (S × Addr)) (fp : List Addr) (x : α) (y : β), x ∈ xs → p x = true → y ∈ ys x → p1 x y = true → EE (X.blk s H scope (compEnvC scope cl C X.env) fp) elt B ((ρ.set i1 (some (enc x))).set j1 (some (enc1 x y))) (f x y))
    (hv : (ρ[i1]? = some none ∨ ρ[i1]? = none) ∧ (ρ[j1]? = some none ∨ ρ[j1]? = none)) (him0 : ∀ x ∈ xs, (enc x).imm = true) (him1 : ∀ x ∈ xs, ∀ y ∈ ys x, (enc1 x y).imm = true) (him : ∀ x ∈ xs, ∀ y ∈ ys x, (f x y).imm = true)
    (hl : ((xs.filter p).flatMap fun x => ys x).length < sizeLine)
    (hs : ∀ x, foldedSetIterable iter X.env x = pure x := by intro _; rfl) (hs1 : ∀ env x, foldedSetIterable iter1 env x = pure x := by intro _ _; rfl) :
    LC2 X elt (.Name x1 px) iter (.Name y1 py) iter1 ifs ifs1 scope B ρ ((xs.filter p).flatMap fun x => ((ys x).filter (p1 x)).map (f x)) := by
  obtain ⟨wi, h1, h2⟩ := hi.ex
  have hi1' : ∃ t1 : TE, (∀ (s : Shared) (H : Hp) (C : Addr) (cl : List (S × Addr)) (fp : List Addr), PE (X.blk s H scope (compEnvC scope cl C X.env) fp) iter1 t1) ∧
      ∀ (σ : L2.St) (H : Hp) (p' : Addr) (ys' : List V) (Q : VK), H p' = some (.lst ys') → B p' = none →
        (∃ x, (x ∈ xs ∧ p x = true) ∧ EnvR X.K B (ρ.set i1 (some (enc x))) σ (hide H p') ∧ ∀ a vs H', Same H H' → a ≠ p' → H' a = some (.lst vs) → DatAll X.K H' vs ((ys x).map (enc1 x)) → Q (.ref a) H') → t1 σ H Q := by
    refine ⟨fun σ H Q => ∃ (p' : Addr) (ys' : List V), H p' = some (.lst ys') ∧ B p' = none ∧ ∃ x, (x ∈ xs ∧ p x = true) ∧ EnvR X.K B (ρ.set i1 (some (enc x))) σ (hide H p') ∧ ∀ a vs H', Same H H' → a ≠ p' → H' a = some (.lst vs) → DatAll X.K H' vs ((ys x).map (enc1 x)) → Q (.ref a) H',
      fun s H C cl fp => ?_, fun σ H p' ys' Q a b c => ⟨p', ys', a, b, c⟩⟩
    obtain ⟨t, ht1, ht2⟩ := (hi1 s H C cl fp).ex
    exact PE.weak ht1 fun σ H Q ⟨p', ys', a, b, c⟩ => ht2 σ H p' ys' Q a b c
  obtain ⟨t1, ht11, ht12⟩ := hi1'
  have ete : ∀ (s : Shared) (H : Hp) (C : Addr) (cl : List (S × Addr)) (fp : List Addr), PE (X.blk s H scope (compEnvC scope cl C X.env) fp) elt
      (tF X.K (fun z : α × β => z.1 ∈ xs ∧ p z.1 = true ∧ z.2 ∈ ys z.1 ∧ p1 z.1 z.2 = true) (fun _ => B) (fun z => (ρ.set i1 (some (enc z.1))).set j1 (some (enc1 z.1 z.2))) (fun z => f z.1 z.2)) := fun s H C cl fp =>
    pe_F (pre := fun z : α × β => z.1 ∈ xs ∧ p z.1 = true ∧ z.2 ∈ ys z.1 ∧ p1 z.1 z.2 = true) (B := fun _ => B) (ρ := fun z => (ρ.set i1 (some (enc z.1))).set j1 (some (enc1 z.1 z.2))) (f := fun z => f z.1 z.2) fun z hz => he s H C cl fp z.1 z.2 hz.1 hz.2.1 hz.2.2.1 hz.2.2.2
  have ett : ∀ (s : Shared) (H : Hp) (C : Addr) (cl : List (S × Addr)) (fp : List Addr), PTs (X.blk s H scope (compEnvC scope cl C X.env) fp) ifs1
      (tFT X.K (fun z : α × β => z.1 ∈ xs ∧ p z.1 = true ∧ z.2 ∈ ys z.1) (fun _ => B) (fun z => (ρ.set i1 (some (enc z.1))).set j1 (some (enc1 z.1 z.2))) (fun z => p1 z.1 z.2)) := fun s H C cl fp =>
    pts_F (pre := fun z : α × β => z.1 ∈ xs ∧ p z.1 = true ∧ z.2 ∈ ys z.1) (B := fun _ => B) (ρ := fun z => (ρ.set i1 (some (enc z.1))).set j1 (some (enc1 z.1 z.2))) (f := fun z => p1 z.1 z.2) fun z hz => ht1 s H C cl fp z.1 z.2 hz.1 hz.2.1 hz.2.2
  have ett0 : ∀ (s : Shared) (H : Hp) (C : Addr) (cl : List (S × Addr)) (fp : List Addr), PTs (X.blk s H scope (compEnvC scope cl C X.env) fp) ifs (tFT X.K (fun x => x ∈ xs) (fun _ => B) (fun x => ρ.set i1 (some (enc x))) p) := fun s H C cl fp =>
    pts_F (pre := fun x => x ∈ xs) (B := fun _ => B) fun x hx => ht s H C cl fp x hx
  refine ⟨[(x1, i1), (y1, j1)], [j1], wi, iList X.K t1, _, _, _, _, _, h1, ok, (fun i hi => by simp at hi ⊢; exact .inr hi), hg, ett0, (fun s H C cl fp => pi_list (ht11 s H C cl fp)), hg1, ett, ete, hs, hs1, fun σ H Q q0 q => ?_⟩
  refine h2 σ H _ q0 fun J H1 s1 hJ Dl hD => ?_
  have hBD : B Dl = none := by
    cases hb : B Dl with
    | none => rfl
    | some ob =>
      have := s1 _ _ (q0.1 _ _ hb)
      rw [hD] at this
      cases this
  let R : Nat → List D := fun i => ((xs.take i).filter p).flatMap fun x => ((ys x).filter (p1 x)).map (f x)
  let Pv : Nat → Hp → Prop := fun i H => Same H1 H ∧ ∃ ws, H Dl = some (.lst ws) ∧ DatAll X.K H ws (R i)
  have lenR : ∀ (x : α) (i j : Nat), xs[i]? = some x → p x = true → j < (ys x).length → (R i).length + ((((ys x).take j).filter (p1 x)).map (f x)).length < ((xs.filter p).flatMap fun x => ys x).length := by
    intro x i j hx hp hj
    have a1 : ∀ zs : List α, (zs.flatMap fun x => ((ys x).filter (p1 x)).map (f x)).length ≤ (zs.flatMap fun x => ys x).length := by
      intro zs
      induction zs with
      | nil => exact Nat.le_refl _
      | cons z r ih =>
        rw [List.flatMap_cons, List.flatMap_cons, List.length_append, List.length_append, List.length_map]
        have := List.length_filter_le (p1 z) (ys z)
        omega
    have a2 : ((xs.filter p).flatMap fun x => ys x).length = (((xs.take i).filter p).flatMap fun x => ys x).length + (ys x).length + (((xs.drop (i + 1)).filter p).flatMap fun x => ys x).length := by
      have e1 : xs = xs.take i ++ x :: xs.drop (i + 1) := by
        have hi : i < xs.length := (List.getElem?_eq_some_iff.mp hx).1
        have := List.take_append_drop i xs
        rw [List.drop_eq_getElem_cons hi, (List.getElem?_eq_some_iff.mp hx).2] at this
        exact this.symm
      conv => lhs; rw [e1]
      rw [List.filter_append, List.filter_cons, if_pos hp, List.flatMap_append, List.flatMap_cons, List.length_append, List.length_append]
      omega
    have a3 := a1 ((xs.take i).filter p)
    have a4 := List.length_filter_le (p1 x) ((ys x).take j)
    rw [List.length_take] at a4
    rw [List.length_map]
    show (((xs.take i).filter p).flatMap fun x => ((ys x).filter (p1 x)).map (f x)).length + _ < _
    omega
  have immR : ∀ i, imms (R i) = true := by
    intro i
    have go : ∀ zs : List α, (∀ z ∈ zs, z ∈ xs) → imms (zs.flatMap fun x => ((ys x).filter (p1 x)).map (f x)) = true := by
      intro zs
      induction zs with
      | nil => intro _; rfl
      | cons z r ih =>
        intro hz
        rw [List.flatMap_cons]
        exact imms_append (imms_map fun y hy => him z (hz z List.mem_cons_self) y (List.mem_filter.mp hy).1) (ih fun w hw => hz w (List.mem_cons_of_mem _ hw))
    exact go _ fun z hz => List.mem_of_mem_take (List.mem_filter.mp hz).1
  have E1 : EnvR X.K B ρ (wipe σ [i1, j1]) H1 := (q0.mono s1).wipe fun i hi => by
    rcases List.mem_cons.mp hi with rfl | hi
    · exact hv.1
    · rw [List.mem_singleton.mp hi]
      exact hv.2
  refine ⟨fun i m H => m = xs.length - i ∧ i ≤ xs.length ∧ Pv i H, ⟨xs.length, by simp, Nat.zero_le _, Same.new hD, [], upd_same, .nil⟩, ?_⟩
  rintro i m H2 ⟨rfl, hil, s2, ws, hws, hd⟩
  obtain ⟨j1', j2'⟩ := hJ H2 s2
  by_cases hlt : i < xs.length
  · have hx : xs[i]? = some xs[i] := List.getElem?_eq_getElem hlt
    generalize xs[i] = x at hx
    have hm : x ∈ xs := List.mem_of_getElem? hx
    obtain ⟨jg, jy⟩ := j1' i (enc x) (by rw [List.getElem?_map, hx]; rfl)
    refine .inr ⟨jg, Pv (i + 1), fun H' p' => ⟨xs.length - (i + 1), by omega, rfl, hlt, p'⟩, fun v H3 hy => ?_⟩
    obtain ⟨s3, dv⟩ := jy v H3 hy
    have hws3 := s3 _ _ hws
    -- the env of the turn, in the hidden heap
    have E2 : ∀ H4, Same H3 H4 → EnvR X.K B (ρ.set i1 (some (enc x))) ((wipe σ [i1, j1]).set i1 (some v)) (hide H4 Dl) := fun H4 s4 =>
      (E1.mono (hide_of ((s2.trans s3).trans s4) hD)).set (Dat.keepT (hide_T (s4 _ _ hws3)) (dv.mono s4) (him0 x hm))
    refine ⟨?_, x, hm, (E2 H3 (Same.refl _)).mono (hide_same _ _), fun H4 s4 => ?_⟩
    · apply List.ext_getElem?
      intro j
      show (wipe ((wipe σ [i1, j1]).set i1 (some v)) [i1, j1])[j]? = (wipe σ [i1, j1])[j]?
      rw [wipe_get, wipe_get, List.length_set, wipe_length]
      split
      · rfl
      · rename_i hj
        rw [List.getElem?_set_ne (fun e => hj (by simp [e])), wipe_get, if_neg hj]
    · have hRx : R (i + 1) = R i ++ (if p x = true then ((ys x).filter (p1 x)).map (f x) else []) := filter_flat hx
      cases hp : p x with
      | true =>
        rw [hp, if_pos rfl] at hRx
        refine ht12 _ H4 Dl ws _ (s4 _ _ hws3) hBD ⟨x, ⟨hm, hp⟩, E2 H4 s4, fun a vs' H5 s5 ha hav hdv => ⟨a, rfl, ⟨_, SqL.of hav⟩, ?_⟩⟩
        have hws5 := s5 _ _ (s4 _ _ hws3)
        have ki : imms ((ys x).map (enc1 x)) = true := imms_map fun y hy => him1 x hm y hy
        let Pw : Nat → Hp → Prop := fun j H => Same H1 H ∧ (∀ b ob, b ≠ Dl → H5 b = some ob → H b = some ob) ∧ ∃ ws, H Dl = some (.lst ws) ∧ DatAll X.K H ws (R i ++ (((ys x).take j).filter (p1 x)).map (f x))
        refine ⟨fun j k H => k = (ys x).length - j ∧ j ≤ (ys x).length ∧ Pw j H, ⟨(ys x).length, by simp, Nat.zero_le _, (((s2.trans s3).trans s4).trans s5), fun b ob _ hb => hb, ws, hws5, by rw [List.take_zero]; simpa using hd.mono ((s3.trans s4).trans s5)⟩, ?_⟩
        rintro j k H6 ⟨rfl, hjl, s6, k6, ws6, hws6, hd6⟩
        have hlen : vs'.length = (ys x).length := by rw [hdv.length, List.length_map]
        have ha6 : H6 a = some (.lst vs') := k6 a _ ha hav
        by_cases hjlt : j < (ys x).length
        · have hyj : (ys x)[j]? = some (ys x)[j] := List.getElem?_eq_getElem hjlt
          generalize (ys x)[j] = y at hyj
          have hmy : y ∈ ys x := List.mem_of_getElem? hyj
          have hyd : ((ys x).map (enc1 x))[j]? = some (enc1 x y) := by rw [List.getElem?_map, hyj]; rfl
          obtain ⟨w, hw, dw⟩ := hdv.get hyd
          have htk : (ys x).take (j + 1) = (ys x).take j ++ [y] := by rw [List.take_add_one, hyj]; rfl
          refine .inr ⟨⟨vs', w, SqL.of ha6, hw⟩, Pw (j + 1), fun H' p' => ⟨(ys x).length - (j + 1), by omega, rfl, hjlt, p'⟩, fun w' H7 hyl => ?_⟩
          obtain ⟨e7, hyl⟩ := hyl
          subst e7
          have := hyl vs' (SqL.of ha6)
          rw [hw] at this
          cases this
          -- tuples of H5 stand in H7
          have kT : ∀ a xs, SqT X.K H5 a xs → SqT X.K H7 a xs := fun b zs hb => by
            rcases hb with hb | hb
            · have ne : b ≠ Dl := fun e => by
                subst e
                rcases hb with hb | ⟨_, hb⟩ <;> (rw [hws5] at hb; cases hb)
              rcases hb with hb | ⟨ob, hb⟩
              · exact .inl (.inl (k6 _ _ ne hb))
              · exact .inl (.inr ⟨ob, k6 _ _ ne hb⟩)
            · exact .inr hb
          have dw7 : Dat X.K H7 w (enc1 x y) := Dat.keepT kT dw (him1 x hm y hmy)
          have E3 : EnvR X.K B (ρ.set i1 (some (enc x))) ((wipe σ [i1, j1]).set i1 (some v)) H7 :=
            ((E1.mono s6).set (Dat.keepT kT (dv.mono (s4.trans s5)) (him0 x hm)))
          have E3' : EnvR X.K B (ρ.set i1 (some (enc x))) (wipe ((wipe σ [i1, j1]).set i1 (some v)) [j1]) H7 := E3.wipe fun i hi => by
            rw [List.mem_singleton.mp hi, List.getElem?_set_ne hij]
            exact hv.2
          have E4 := E3'.set (j := j1) dw7
          refine ⟨?_, (x, y), ⟨hm, hp, hmy⟩, E4, fun H8 s8 => ?_⟩
          · apply List.ext_getElem?
            intro l
            show (wipe ((wipe ((wipe σ [i1, j1]).set i1 (some v)) [j1]).set j1 (some w)) [j1])[l]? = (wipe ((wipe σ [i1, j1]).set i1 (some v)) [j1])[l]?
            rw [wipe_get, wipe_get, List.length_set, wipe_length]
            split
            · rfl
            · rename_i hj
              rw [List.getElem?_set_ne (fun e => hj (by simp [e])), wipe_get, if_neg hj]
          · show if p1 x y = true then _ else _
            cases hp1 : p1 x y with
            | true =>
              rw [if_pos rfl]
              refine ⟨(x, y), ⟨hm, hp, hmy, hp1⟩, E4.mono s8, fun z H9 s9 dz => ⟨ws6, s9 _ _ (s8 _ _ hws6), ?_, ?_, ?_, ws6 ++ [z], upd_same, ?_⟩⟩
              · have e1 := hd6.length
                rw [List.length_append] at e1
                have e2 := lenR x i j hx hp hjlt
                omega
              · intro b ob hb
                have ne : b ≠ Dl := ne_of_none hb hD
                rw [upd_ne ne]
                exact s9 _ _ (s8 _ _ (s6 _ _ hb))
              · intro b ob ne hb
                rw [upd_ne ne]
                exact s9 _ _ (s8 _ _ (k6 _ _ ne hb))
              · rw [htk, List.filter_append, List.map_append]
                have e1 : ([y].filter (p1 x)).map (f x) = [f x y] := by rw [List.filter_cons, hp1]; rfl
                rw [e1, ← List.append_assoc]
                have kT9 := upd_keepT (K := X.K) (o := .lst (ws6 ++ [z])) (s9 _ _ (s8 _ _ hws6))
                refine (DatAll.keepT kT9 ((hd6.mono s8).mono s9) ?_).append (.one (Dat.keepT kT9 dz (him x hm y hmy)))
                exact imms_append (immR i) (imms_map fun y hy => him x hm y (List.mem_of_mem_take (List.mem_filter.mp hy).1))
            | false =>
              rw [if_neg (by decide)]
              refine ⟨s6.trans s8, fun b ob ne hb => s8 _ _ (k6 _ _ ne hb), ws6, s8 _ _ hws6, ?_⟩
              rw [htk, List.filter_append, List.map_append]
              have e1 : ([y].filter (p1 x)).map (f x) = [] := by rw [List.filter_cons, hp1]; rfl
              rw [e1, List.append_nil]
              exact hd6.mono s8
        · have e : j = (ys x).length := by omega
          subst e
          refine .inl ⟨⟨vs', SqL.of ha6, by omega⟩, s6, ws6, hws6, ?_⟩
          rw [hRx]
          rw [List.take_length] at hd6
          exact hd6
      | false =>
        rw [hp] at hRx
        refine ⟨(s2.trans s3).trans s4, ws, s4 _ _ hws3, ?_⟩
        rw [hRx, if_neg (by decide), List.append_nil]
        exact hd.mono (s3.trans s4)
  · have e : i = xs.length := by omega
    subst e
    refine .inl ⟨j2' _ (by simp), q _ _ _ (s1.free hD) (s1.trans s2) hws ?_⟩
    have : R xs.length = (xs.filter p).flatMap fun x => ((ys x).filter (p1 x)).map (f x) := by
      show ((xs.take xs.length).filter p).flatMap _ = _
      rw [List.take_length]
    rw [this] at hd
    exact hd
theorem LC2.is {tg tg1 : Expr} {ds ds' : List D} (h : LC2 X elt tg iter tg1 iter1 ifs ifs1 scope B ρ ds) (e : ds = ds') : LC2 X elt tg iter tg1 iter1 ifs ifs1 scope B ρ ds' := e ▸ h
end
end K74

set_option Elab.async false
set_option linter.all false
set_option maxRecDepth 100000
set_option maxHeartbeats 4000000
/-! K74.KL5: comprehensions used, calls, fields, blocks, defs. -/
namespace K74
open PySem PySem.Spec PyProof.Rows L2

section
variable {X : Cx} {B : Hp} {ρ : Rho} {k j : Nat} {elt tg iter tg1 iter1 : Expr} {ifs ifs1 : List Expr} {scope : Scope} {pos p p' spos : Pos} {ds : List D}
theorem en_lc (o : Ok X k) (h : LC X elt tg iter ifs scope B ρ ds) : EN X (.ListComp elt [⟨tg, iter, ifs, 0⟩] scope pos) B ρ ds := by
  obtain ⟨own, wi, g, tt, te, h1, ok, hg, ht, he, hs, q⟩ := h.ex
  exact PE.weak (pe_lc o.calm o.nd h1 ok hg ht he hs) fun σ H Q r => q σ H Q r.1 r.2
theorem en_lc2 (o : Ok X k) (h : LC2 X elt tg iter tg1 iter1 ifs ifs1 scope B ρ ds) : EN X (.ListComp elt [⟨tg, iter, ifs, 0⟩, ⟨tg1, iter1, ifs1, 0⟩] scope pos) B ρ ds := by
  obtain ⟨own, vs1, wi, wi1, g, g1, tt, tt1, te, h1, ok, hvs, hg, ht, hi1, hg1, ht1, he, hs, hs1, q⟩ := h.ex
  exact PE.weak (pe_lc2 o.calm o.nd h1 ok hvs hg ht hi1 hg1 ht1 he hs hs1) fun σ H Q r => q σ H Q r.1 r.2
theorem ee_lc (o : Ok X k) (h : LC X elt tg iter ifs scope B ρ ds) : EE X (.ListComp elt [⟨tg, iter, ifs, 0⟩] scope pos) B ρ (.lst ds) := (en_lc o h).ee
theorem ee_lc2 (o : Ok X k) (h : LC2 X elt tg iter tg1 iter1 ifs ifs1 scope B ρ ds) : EE X (.ListComp elt [⟨tg, iter, ifs, 0⟩, ⟨tg1, iter1, ifs1, 0⟩] scope pos) B ρ (.lst ds) := (en_lc2 o h).ee
end

/-! ### promises over data, calls -/
/-- a value comes back -/
def spP (K : PySem.W.Frag) (R : Hp → List D → D → Prop) : Sp := fun vs H Q _ => ∃ ds d, R H ds d ∧ DatAll K H vs ds ∧ ∀ v H', Same H H' → Dat K H' v d → Q v H'
/-- a new list comes back -/
def spN (K : PySem.W.Frag) (R : Hp → List D → List D → Prop) : Sp := fun vs H Q _ => ∃ ds es, R H ds es ∧ DatAll K H vs ds ∧ ∀ p ws H', H p = none → Same H H' → H' p = some (.lst ws) → DatAll K H' ws es → Q (.ref p) H'
structure Cal (P : Program) (w : World) (K : PySem.W.Frag) (mg : Str → Option Value) (base : Heap) (k : Nat) (x : S) (sp : Sp) : Prop where
  ex : ∃ (f : Addr) (fd : FuncData) (ps : List S), FnOk P w K mg base CX0 k f fd ps sp ∧ mg x = some (.ref f) ∧ PySem.W.keepIn K (.ref f) = true ∧ Binds K fd ps []
structure Met (P : Program) (w : World) (K : PySem.W.Frag) (mg : Str → Option Value) (base : Heap) (k : Nat) (C : Addr) (m : S) (sp : Sp) : Prop where
  ex : ∃ (f : Addr) (fd : FuncData) (ps : List S), Cls K C ∧ Meth K C m f ∧ FnOk P w K mg base CX0 k f fd ps sp ∧ Binds K fd ps []
theorem Cal.imp {P : Program} {w : World} {K : PySem.W.Frag} {mg : Str → Option Value} {base : Heap} {k : Nat} {x : S} {sp sp' : Sp} (c : Cal P w K mg base k x sp) (h : ∀ vs H Q E, sp' vs H Q E → sp vs H Q E) : Cal P w K mg base k x sp' := by
  obtain ⟨f, fd, ps, h1, h2, h3, h4⟩ := c.ex
  exact ⟨f, fd, ps, h1.imp h, h2, h3, h4⟩

section
variable {X : Cx} {B : Hp} {ρ : Rho} {k j : Nat} {e ob : Expr} {es : List Expr} {x m : S} {pos p apos : Pos} {d : D} {ds qs : List D} {R : Hp → List D → D → Prop} {RN : Hp → List D → List D → Prop} {C a : Addr}
theorem pe_cal {sp : Sp} {t : TA} (c : Cal X.prog X.w X.K X.mg X.base k x sp) (o : Ok X j) (hk : k ≤ j) (ha : PA X (e :: es) t) (hg : Gl X x := by rfl) (hdb : (x == ("__debug__" : Str)) = false := by decide)
    (he : starEach (e :: es) X.env = (false, eval e X.env) :: starEach es X.env := by rfl) (hpl : (backTo pos (starEach es X.env)).any (·.1) = false := by rfl) : PE X (.Call (.Name x p) (e :: es) [] pos) (tCall sp [] E0 t) := by
  obtain ⟨f, fd, ps, F, hm, kp, b⟩ := c.ex
  exact pe_call F (o.room.mono hk) hg hm kp b .nil pass0 ha hdb he hpl
theorem ee_call (c : Cal X.prog X.w X.K X.mg X.base k x (spP X.K R)) (o : Ok X j) (hk : k ≤ j) (ha : EA X (e :: es) B ρ ds) (hR : ∀ H, Same B H → R H ds d) (hg : Gl X x := by rfl) (hdb : (x == ("__debug__" : Str)) = false := by decide)
    (he : starEach (e :: es) X.env = (false, eval e X.env) :: starEach es X.env := by rfl) (hpl : (backTo pos (starEach es X.env)).any (·.1) = false := by rfl) : EE X (.Call (.Name x p) (e :: es) [] pos) B ρ d :=
  PE.weak (pe_cal c o hk ha hg hdb he hpl) fun σ H Q q => ⟨q.1, fun vs H1 s1 dv => by
    show spP X.K R (vs ++ []) H1 Q E0
    rw [List.append_nil]
    exact ⟨ds, d, hR H1 (q.1.1.trans s1), dv, fun v H' s' dv' => q.2 v H' (s1.trans s') dv'⟩⟩
theorem en_call (c : Cal X.prog X.w X.K X.mg X.base k x (spN X.K RN)) (o : Ok X j) (hk : k ≤ j) (ha : EA X (e :: es) B ρ ds) (hR : ∀ H, Same B H → RN H ds qs) (hg : Gl X x := by rfl) (hdb : (x == ("__debug__" : Str)) = false := by decide)
    (he : starEach (e :: es) X.env = (false, eval e X.env) :: starEach es X.env := by rfl) (hpl : (backTo pos (starEach es X.env)).any (·.1) = false := by rfl) : EN X (.Call (.Name x p) (e :: es) [] pos) B ρ qs :=
  PE.weak (pe_cal c o hk ha hg hdb he hpl) fun σ H Q q => ⟨q.1, fun vs H1 s1 dv => by
    show spN X.K RN (vs ++ []) H1 Q E0
    rw [List.append_nil]
    exact ⟨ds, qs, hR H1 (q.1.1.trans s1), dv, fun r ws H' hr s' hl hd => q.2 r ws H' (s1.free hr) (s1.trans s') hl hd⟩⟩
theorem ee_callN (c : Cal X.prog X.w X.K X.mg X.base k x (spN X.K RN)) (o : Ok X j) (hk : k ≤ j) (ha : EA X (e :: es) B ρ ds) (hR : ∀ H, Same B H → RN H ds qs) (hg : Gl X x := by rfl) (hdb : (x == ("__debug__" : Str)) = false := by decide)
    (he : starEach (e :: es) X.env = (false, eval e X.env) :: starEach es X.env := by rfl) (hpl : (backTo pos (starEach es X.env)).any (·.1) = false := by rfl) : EE X (.Call (.Name x p) (e :: es) [] pos) B ρ (.lst qs) := (en_call c o hk ha hR hg hdb he hpl).ee
/-- o.m(..) -/
theorem pe_met {sp : Sp} {ta : TE} {t : TA} {pl : Sem Bool} (c : Met X.prog X.w X.K X.mg X.base k C m sp) (o : Ok X j) (hk : k ≤ j) (ho : PE X ob ta) (ha : PA X (e :: es) t)
    (hst : starEach (e :: es) X.env = (false, eval e X.env) :: starEach es X.env := by rfl) (hpl : (backTo pos (starEach es X.env)).any (·.1) = false := by rfl)
    (ht : eval (.Call (.Attribute ob m apos) (e :: es) [] pos) X.env = (do
      let ov ← eval ob X.env
      standAt apos.atName
      let (f, first) ← holding [ov] (getMethod ov m pl)
      callWith pos f first (backTo pos (starEach (e :: es) X.env)) (backToKw pos (keywordEach [] X.env))) := by rfl) : PE X (.Call (.Attribute ob m apos) (e :: es) [] pos) (tMeth C m sp [] E0 ta t) := by
  obtain ⟨f, fd, ps, hc, hm, F, b⟩ := c.ex
  exact pe_meth (pl := pl) ho hc hm F (o.room.mono hk) b .nil pass0 ha hst hpl ht
theorem pe_met0 {sp : Sp} {ta : TE} {pl : Sem Bool} (c : Met X.prog X.w X.K X.mg X.base k C m sp) (o : Ok X j) (hk : k ≤ j) (ho : PE X ob ta)
    (ht : eval (.Call (.Attribute ob m apos) [] [] pos) X.env = (do
      let ov ← eval ob X.env
      standAt apos.atName
      let (f, first) ← holding [ov] (getMethod ov m pl)
      callWith pos f first (backTo pos (starEach [] X.env)) (backToKw pos (keywordEach [] X.env))) := by rfl) : PE X (.Call (.Attribute ob m apos) [] [] pos) (tMeth C m sp [] E0 ta tNil) := by
  obtain ⟨f, fd, ps, hc, hm, F, b⟩ := c.ex
  exact pe_meth0 (pl := pl) ho hc hm F (o.room.mono hk) b .nil pass0 ht
/-- an object of the class at C stands at a, and has no attribute of that name -/
def InsAt (B : Hp) (C a : Addr) (m : S) : Prop := ∃ dx fs, B a = some (.ins C dx fs) ∧ fs.lookup m = none
theorem ee_meth {pl : Sem Bool} (c : Met X.prog X.w X.K X.mg X.base k C m (spP X.K R)) (o : Ok X j) (hk : k ≤ j) (ho : EE X ob B ρ (.raw (.ref a))) (hin : InsAt B C a m) (ha : EA X (e :: es) B ρ ds) (hR : ∀ H, Same B H → R H (.raw (.ref a) :: ds) d)
    (hst : starEach (e :: es) X.env = (false, eval e X.env) :: starEach es X.env := by rfl) (hpl : (backTo pos (starEach es X.env)).any (·.1) = false := by rfl)
    (ht : eval (.Call (.Attribute ob m apos) (e :: es) [] pos) X.env = (do
      let ov ← eval ob X.env
      standAt apos.atName
      let (f, first) ← holding [ov] (getMethod ov m pl)
      callWith pos f first (backTo pos (starEach (e :: es) X.env)) (backToKw pos (keywordEach [] X.env))) := by rfl) : EE X (.Call (.Attribute ob m apos) (e :: es) [] pos) B ρ d :=
  PE.weak (pe_met (pl := pl) c o hk ho ha hst hpl ht) fun σ H Q q => ⟨q.1, fun v H1 s1 dv => by
    cases dv
    obtain ⟨dx, fs, h1, h2⟩ := hin
    refine ⟨a, dx, fs, rfl, s1 _ _ (q.1.1 _ _ h1), h2, q.1.mono s1, fun vs H2 s2 dvs => ?_⟩
    show spP X.K R (.ref a :: (vs ++ [])) H2 Q E0
    rw [List.append_nil]
    exact ⟨_, d, hR H2 ((q.1.1.trans s1).trans s2), .cons (.raw _) dvs, fun v H' s' dv' => q.2 v H' ((s1.trans s2).trans s') dv'⟩⟩
theorem ee_meth0 {pl : Sem Bool} (c : Met X.prog X.w X.K X.mg X.base k C m (spP X.K R)) (o : Ok X j) (hk : k ≤ j) (ho : EE X ob B ρ (.raw (.ref a))) (hin : InsAt B C a m) (hR : ∀ H, Same B H → R H [.raw (.ref a)] d)
    (ht : eval (.Call (.Attribute ob m apos) [] [] pos) X.env = (do
      let ov ← eval ob X.env
      standAt apos.atName
      let (f, first) ← holding [ov] (getMethod ov m pl)
      callWith pos f first (backTo pos (starEach [] X.env)) (backToKw pos (keywordEach [] X.env))) := by rfl) : EE X (.Call (.Attribute ob m apos) [] [] pos) B ρ d :=
  PE.weak (pe_met0 (pl := pl) c o hk ho ht) fun σ H Q q => ⟨q.1, fun v H1 s1 dv => by
    cases dv
    obtain ⟨dx, fs, h1, h2⟩ := hin
    refine ⟨a, dx, fs, rfl, s1 _ _ (q.1.1 _ _ h1), h2, ?_⟩
    exact ⟨_, d, hR H1 (q.1.1.trans s1), .one (.raw _), fun v H' s' dv' => q.2 v H' (s1.trans s') dv'⟩⟩
/-- o.f -/
theorem ee_fld {f : S} (ho : EE X ob B ρ (.raw (.ref a))) (h : ∃ dx fs v, B a = some (.ins C dx fs) ∧ Cls X.K C ∧ NoAttr X.K C f ∧ fs.lookup f = some v ∧ Dat X.K B v d) (hb : attributeBase ob f X.env (eval ob X.env) = eval ob X.env := by rfl) :
    EE X (.Attribute ob f pos) B ρ d :=
  PE.weak (pe_fld ho hb) fun σ H Q q => ⟨q.1, fun v H1 s1 dv => by
    cases dv
    obtain ⟨dx, fs, v, h1, h2, h3, h4, h5⟩ := h
    exact ⟨a, C, dx, fs, v, rfl, s1 _ _ (q.1.1 _ _ h1), h2, h3, h4, q.2 v H1 s1 (h5.mono (q.1.1.trans s1))⟩⟩
end

/-! ### blocks -/
/-- how a block ends: it hands back data; it goes on with these slots -/
inductive Out | ret (d : D) | nx (ρ : Rho)
def OutK (K : PySem.W.Frag) (B : Hp) (o : Out) (Dn : Ends) (H : Hp) : Prop := match o with
  | .ret d => ∀ v H', Same H H' → Dat K H' v d → Dn.rt v H'
  | .nx ρ' => ∀ σ' H', Same H H' → EnvR K B ρ' σ' H' → Dn.nx σ' H'
theorem OutK.mono {K : PySem.W.Frag} {B : Hp} {o : Out} {Dn : Ends} {H H' : Hp} (s : Same H H') (h : OutK K B o Dn H) : OutK K B o Dn H' := by
  cases o with
  | ret d => exact fun v H2 s2 dv => h v H2 (s.trans s2) dv
  | nx ρ => exact fun σ H2 s2 e => h σ H2 (s.trans s2) e
def tB (K : PySem.W.Frag) (B : Hp) (ρ : Rho) (o : Out) : TS := fun Dn σ H => EnvR K B ρ σ H ∧ OutK K B o Dn H
abbrev BS (X : Cx) (sts : List Stmt) (B : Hp) (ρ : Rho) (o : Out) : Prop := PSs X sts (tB X.K B ρ o)
/-- the slots of ρ' are known in ρ -/
def Le (ρ' ρ : Rho) : Prop := ρ'.length ≤ ρ.length ∧ ∀ (i : Nat) (d : D), ρ'[i]? = some (some d) → ρ[i]? = some (some d)
theorem Le.refl (ρ : Rho) : Le ρ ρ := ⟨Nat.le_refl _, fun _ _ h => h⟩
theorem Le.set {ρ' ρ : Rho} {i : Nat} {x : Option D} (h : Le ρ' ρ) (hi : ρ'[i]? = some none ∨ ρ'[i]? = none) : Le ρ' (ρ.set i x) := ⟨by rw [List.length_set]; exact h.1, fun j d hj => by
  have ne : i ≠ j := fun e => by
    subst e
    rcases hi with q | q <;> (rw [q] at hj; cases hj)
  rw [List.getElem?_set_ne ne]
  exact h.2 j d hj⟩
theorem EnvR.le {K : PySem.W.Frag} {B : Hp} {ρ' ρ : Rho} {σ : L2.St} {H : Hp} (h : EnvR K B ρ σ H) (l : Le ρ' ρ) : EnvR K B ρ' σ H := ⟨h.1, fun i d hi => h.2.1 i d (l.2 i d hi), Nat.le_trans l.1 h.2.2⟩

section
variable {X : Cx} {B : Hp} {ρ ρ1 : Rho} {k j : Nat} {e c a b : Expr} {rest body orelse : List Stmt} {x y : S} {pos p p' p2 p3 : Pos} {d d1 d2 : D} {o : Out}
theorem bs_nil (h : Le ρ1 ρ) : BS X [] B ρ (.nx ρ1) := ⟨fun pins s σ H Dn I q => pss_nil.run pins s σ H Dn I (q.2 σ H (Same.refl H) (q.1.le h))⟩
theorem bs_ret (h : EE X e B ρ d) : BS X [.Return (some e) pos] B ρ (.ret d) := PSs.weak (pss_one (ps_ret h)) fun Dn σ H q => ⟨q.1, fun v H' s dv => q.2 v H' s dv⟩
theorem bs_retIs (h : EE X e B ρ d) (e' : d = d1) : BS X [.Return (some e) pos] B ρ (.ret d1) := e' ▸ bs_ret h
/-- x = e -/
theorem bs_set (i : Nat) (oo : Ok X k) (he : EE X e B ρ d1) (hr : BS X rest B (ρ.set i (some d1)) o) (hi : X.N[i]? = some x := by rfl) (hx : Loc X.env.scope x := by first | exact Or.inl rfl | exact Or.inr rfl) (hs : swapsWith e (some (.Name x p')) pos.line X.env = pure false := by rfl)
    (hf : X.fn x = true ∨ X.env.scope.names.lookup x = some .local := by first | exact .inl rfl | exact .inr rfl) : BS X (.Assign [.Name x p'] e pos :: rest) B ρ o :=
  PSs.weak (pss_cons (ps_set oo.nd hi hx he hs hf) hr) fun Dn σ H q => ⟨q.1, fun v H1 s1 dv => ⟨(q.1.mono s1).set dv, q.2.mono s1⟩⟩
/-- x = [..] on one line, x a local -/
theorem bs_setLc (i : Nat) {elt tg iter : Expr} {ifs : List Expr} {scope : Scope} {ds : List D} (oo : Ok X k) (h : LC X elt tg iter ifs scope B ρ ds) (hr : BS X rest B (ρ.set i (some (.lst ds))) o) (hy : X.N[i]? = some y := by rfl) (hyl : X.env.scope.names.lookup y = some .local := by rfl)
    (hsw : swapsWith (.ListComp elt [⟨tg, iter, ifs, 0⟩] scope p) (some (.Name y p')) pos.line X.env = pure true := by exact sw_true rfl rfl rfl (by decide +kernel)) : BS X (.Assign [.Name y p'] (.ListComp elt [⟨tg, iter, ifs, 0⟩] scope p) pos :: rest) B ρ o := by
  obtain ⟨own, wi, g, tt, te, h1, ok, hg, ht, he, hs, q⟩ := h.ex
  exact PSs.weak (pss_cons (ps_setLc oo.calm oo.nd hy hyl hsw h1 ok hg ht he hs) hr) fun Dn σ H r => by
    refine q σ H (fun x H1 => gName i x σ H1 (tB X.K B (ρ.set i (some (.lst ds))) o Dn)) r.1 fun l ws H1 _ s1 hl hd => ?_
    exact ⟨(r.1.mono s1).set (.lst hl hd), r.2.mono s1⟩
theorem bs_setLc2 (i : Nat) {elt tg iter tg1 iter1 : Expr} {ifs ifs1 : List Expr} {scope : Scope} {ds : List D} (oo : Ok X k) (h : LC2 X elt tg iter tg1 iter1 ifs ifs1 scope B ρ ds) (hr : BS X rest B (ρ.set i (some (.lst ds))) o) (hy : X.N[i]? = some y := by rfl) (hyl : X.env.scope.names.lookup y = some .local := by rfl)
    (hsw : swapsWith (.ListComp elt [⟨tg, iter, ifs, 0⟩, ⟨tg1, iter1, ifs1, 0⟩] scope p) (some (.Name y p')) pos.line X.env = pure true := by exact sw_true rfl rfl rfl (by decide +kernel)) :
    BS X (.Assign [.Name y p'] (.ListComp elt [⟨tg, iter, ifs, 0⟩, ⟨tg1, iter1, ifs1, 0⟩] scope p) pos :: rest) B ρ o := by
  obtain ⟨own, vs1, wi, wi1, g, g1, tt, tt1, te, h1, ok, hvs, hg, ht, hi1, hg1, ht1, he, hs, hs1, q⟩ := h.ex
  exact PSs.weak (pss_cons (ps_setLc2 oo.calm oo.nd hy hyl hsw h1 ok hvs hg ht hi1 hg1 ht1 he hs hs1) hr) fun Dn σ H r => by
    refine q σ H (fun x H1 => gName i x σ H1 (tB X.K B (ρ.set i (some (.lst ds))) o Dn)) r.1 fun l ws H1 _ s1 hl hd => ?_
    exact ⟨(r.1.mono s1).set (.lst hl hd), r.2.mono s1⟩
/-- x, y = a, b -/
theorem bs_par (i l : Nat) {px py pt : Pos} {kt k2 : Nat} {pt2 : Pos} (oo : Ok X k) (ha : EA X [a, b] B ρ [d1, d2]) (hr : BS X rest B ((ρ.set i (some d1)).set l (some d2)) o) (hi : X.N[i]? = some x := by rfl) (hj : X.N[l]? = some y := by rfl) (hij : i ≠ l := by decide)
    (hx : X.env.scope.names.lookup x = some .local := by rfl) (hy : X.env.scope.names.lookup y = some .local := by rfl)
    (hw : swappedStores [.Tuple [.Name x px, .Name y py] kt pt] (.Tuple [a, b] k2 pt2) X.env = pure (some [x, y]) := by rfl)
    (hs : swapsWithSole [.Tuple [.Name x px, .Name y py] kt pt] (.Tuple [a, b] k2 pt2) pos.line X.env = pure false := by rfl) :
    BS X (.Assign [.Tuple [.Name x px, .Name y py] kt pt] (.Tuple [a, b] k2 pt2) pos :: rest) B ρ o :=
  PSs.weak (pss_cons (ps_par oo.calm oo.nd hi hj hij hx hy ha hw hs) hr) fun Dn σ H q => ⟨q.1, fun vs H1 s1 dvs => by
    cases dvs with
    | cons h1 r =>
      cases r with
      | cons h2 r =>
        cases r
        exact ⟨_, _, rfl, ((q.1.mono s1).set h1).set h2, q.2.mono s1⟩⟩
/-- target = e, the target any that is told -/
theorem bs_asg {tg : Expr} {g : TG} {vs : List Nat} {ρ' : Rho} (he : EE X e B ρ d1) (hg : PG X tg g) (hgo : TgOk X.K B g vs ρ d1 ρ') (hr : BS X rest B ρ' o) (hs : swapsWithSole [tg] e pos.line X.env = pure false := by rfl) (hw : swappedStores [tg] e X.env = pure none := by rfl)
    (h1 : (assignEach [tg] X.env).map (·.2) = [assign tg X.env] := by rfl) : BS X (.Assign [tg] e pos :: rest) B ρ o :=
  PSs.weak (pss_cons (ps_asg he hg hs hw h1) hr) fun Dn σ H q => ⟨q.1, fun v H1 s1 dv => hgo σ H1 v _ (q.1.mono s1) dv fun σ2 e2 _ _ => ⟨e2, q.2.mono s1⟩⟩
theorem bs_expr (he : EE X e B ρ d1) (hr : BS X rest B ρ o) (hs : swapsWith e none pos.line X.env = pure false := by rfl) : BS X (.Expr e pos :: rest) B ρ o :=
  PSs.weak (pss_cons (ps_expr he hs) hr) fun Dn σ H q => ⟨q.1, fun v H1 s1 dv => ⟨q.1.mono s1, q.2.mono s1⟩⟩
/-- if, told which way -/
theorem bs_ifT (hc : ET X c B ρ true) (hb : BS X body B ρ (.nx ρ1)) (hr : BS X rest B ρ1 o) : BS X (.If c body orelse pos :: rest) B ρ o :=
  PSs.weak (pss_cons (ps_if hc hb pss_never) hr) fun Dn σ H q => ⟨q.1, fun H1 s1 => ⟨q.1.mono s1, fun σ2 H2 s2 e2 => ⟨e2, q.2.mono (s1.trans s2)⟩⟩⟩
theorem bs_ifR (hc : ET X c B ρ true) (hb : BS X body B ρ (.ret d)) : BS X (.If c body orelse pos :: rest) B ρ (.ret d) :=
  PSs.weak (pss_cons (u := tNever) (ps_if hc hb pss_never) pss_never) fun Dn σ H q => ⟨q.1, fun H1 s1 => ⟨q.1.mono s1, fun v H2 s2 dv => q.2 v H2 (s1.trans s2) dv⟩⟩
theorem bs_ifF (hc : ET X c B ρ false) (hr : BS X rest B ρ o) : BS X (.If c body [] pos :: rest) B ρ o :=
  PSs.weak (pss_cons (ps_if hc pss_never pss_nil) hr) fun Dn σ H q => ⟨q.1, fun H1 s1 => ⟨q.1.mono s1, q.2.mono s1⟩⟩
/-- for .. whose turns hand back, or go on with what was known -/
theorem bs_for {tg iter : Expr} {g : TG} {vs : List Nat} {ds : List D} {ρ' : D → Rho} (φ : D → Option D) (oo : Ok X k) (hp : PassesOwn (model X.prog X.w) X.A X.env X.xe) (hi : SI X tg iter B ρ ds) (hg : PG X tg g) (hgo : ∀ d ∈ ds, TgOk X.K B g vs ρ d (ρ' d))
    (hb : ∀ d ∈ ds, BS X body B (ρ' d) (match φ d with | some r => .ret r | none => .nx ρ))
    (hr : match ds.findSome? φ with | some r => o = .ret r | none => BS X rest B ρ o) (hs : ∀ x, foldedSetIterable iter X.env x = pure x := by intro _; rfl) : BS X (.For tg iter body [] pos :: rest) B ρ o := by
  obtain ⟨wi, h1, h2⟩ := hi.ex
  -- the body by a parameter
  have hbody : PSs X body (fun Dn σ H => ∃ d, d ∈ ds ∧ tB X.K B (ρ' d) (match φ d with | some r => .ret r | none => .nx ρ) Dn σ H) := ⟨fun pins s σ H Dn I ⟨d, hd, q⟩ => (hb d hd).run pins s σ H Dn I q⟩
  have hrest : ∃ tr, PSs X rest tr ∧ ∀ Dn σ H, ds.findSome? φ = none → tB X.K B ρ o Dn σ H → tr Dn σ H := by
    cases hf : ds.findSome? φ with
    | some r => exact ⟨_, pss_never, fun Dn σ H z => by cases z⟩
    | none =>
      rw [hf] at hr
      exact ⟨_, hr, fun Dn σ H _ q => q⟩
  obtain ⟨tr, hr1, hr2⟩ := hrest
  refine PSs.weak (pss_cons (ps_for hp oo.calm h1 hg hbody hs) hr1) fun Dn σ H q => h2 σ H _ q.1 fun J H1 s1 hJ => ?_
  refine ⟨fun i m σ2 H2 => m = ds.length - i ∧ i ≤ ds.length ∧ Same H1 H2 ∧ EnvR X.K B ρ σ2 H2 ∧ (ds.take i).findSome? φ = none, ⟨ds.length, by simp, Nat.zero_le _, Same.refl _, q.1.mono s1, rfl⟩, ?_⟩
  rintro i m σ2 H2 ⟨rfl, hil, s2, e2, hf⟩
  obtain ⟨j1, j2⟩ := hJ H2 s2
  by_cases hlt : i < ds.length
  · have hx : ds[i]? = some ds[i] := List.getElem?_eq_getElem hlt
    generalize ds[i] = d at hx
    have hm : d ∈ ds := List.mem_of_getElem? hx
    obtain ⟨jg, jy⟩ := j1 i d hx
    have htk : ds.take (i + 1) = ds.take i ++ [d] := by rw [List.take_add_one, hx]; rfl
    refine .inr ⟨jg, fun σ' H' => Same H1 H' ∧ EnvR X.K B ρ σ' H' ∧ (ds.take (i + 1)).findSome? φ = none, fun σ' H' z => ⟨ds.length - (i + 1), by omega, rfl, hlt, z⟩, fun v H3 hy => ?_⟩
    obtain ⟨s3, dv⟩ := jy v H3 hy
    refine hgo d hm σ2 H3 v _ (e2.mono s3) dv fun σ3 e3 _ _ => ⟨d, hm, e3, ?_⟩
    cases hφ : φ d with
    | some r =>
      have hfs : ds.findSome? φ = some r := by
        have e1 : ds = ds.take i ++ d :: ds.drop (i + 1) := by
          have := List.take_append_drop i ds
          rw [List.drop_eq_getElem_cons hlt, (List.getElem?_eq_some_iff.mp hx).2] at this
          exact this.symm
        rw [e1, List.findSome?_append, hf, Option.none_or, List.findSome?_cons, hφ]
      rw [hfs] at hr
      subst hr
      exact fun w H4 s4 dw => q.2 w H4 (((s1.trans s2).trans s3).trans s4) dw
    | none =>
      refine fun σ4 H4 s4 e4 => ⟨(s2.trans s3).trans s4, e4, ?_⟩
      rw [htk, List.findSome?_append, hf, Option.none_or, List.findSome?_cons, hφ]
      rfl
  · have e : i = ds.length := by omega
    subst e
    rw [List.take_length] at hf
    exact .inl ⟨j2 _ (Nat.le_refl _), hr2 _ _ _ hf ⟨e2, q.2.mono (s1.trans s2)⟩⟩
/-- for .. whose turns go on, from ρf i to ρf (i + 1) -/
theorem bs_forN {tg iter : Expr} {g : TG} {vs : List Nat} {ds : List D} {ρf : Nat → Rho} {ρ' : Nat → D → Rho} (oo : Ok X k) (hp : PassesOwn (model X.prog X.w) X.A X.env X.xe) (hi : SI X tg iter B ρ ds) (h0 : Le (ρf 0) ρ) (hg : PG X tg g) (hgo : ∀ i d, ds[i]? = some d → TgOk X.K B g vs (ρf i) d (ρ' i d))
    (hb : ∀ i d, ds[i]? = some d → BS X body B (ρ' i d) (.nx (ρf (i + 1)))) (hr : BS X rest B (ρf ds.length) o) (hs : ∀ x, foldedSetIterable iter X.env x = pure x := by intro _; rfl) : BS X (.For tg iter body [] pos :: rest) B ρ o := by
  obtain ⟨wi, h1, h2⟩ := hi.ex
  have hbody : PSs X body (fun Dn σ H => ∃ i d, ds[i]? = some d ∧ tB X.K B (ρ' i d) (.nx (ρf (i + 1))) Dn σ H) := ⟨fun pins s σ H Dn I ⟨i, d, hd, q⟩ => (hb i d hd).run pins s σ H Dn I q⟩
  refine PSs.weak (pss_cons (ps_for hp oo.calm h1 hg hbody hs) hr) fun Dn σ H q => h2 σ H _ q.1 fun J H1 s1 hJ => ?_
  refine ⟨fun i m σ2 H2 => m = ds.length - i ∧ i ≤ ds.length ∧ Same H1 H2 ∧ EnvR X.K B (ρf i) σ2 H2, ⟨ds.length, by simp, Nat.zero_le _, Same.refl _, (q.1.mono s1).le h0⟩, ?_⟩
  rintro i m σ2 H2 ⟨rfl, hil, s2, e2⟩
  obtain ⟨j1, j2⟩ := hJ H2 s2
  by_cases hlt : i < ds.length
  · have hx : ds[i]? = some ds[i] := List.getElem?_eq_getElem hlt
    generalize ds[i] = d at hx
    obtain ⟨jg, jy⟩ := j1 i d hx
    refine .inr ⟨jg, fun σ' H' => Same H1 H' ∧ EnvR X.K B (ρf (i + 1)) σ' H', fun σ' H' z => ⟨ds.length - (i + 1), by omega, rfl, hlt, z⟩, fun v H3 hy => ?_⟩
    obtain ⟨s3, dv⟩ := jy v H3 hy
    exact hgo i d hx σ2 H3 v _ (e2.mono s3) dv fun σ3 e3 _ _ => ⟨i, d, hx, e3, fun σ4 H4 s4 e4 => ⟨(s2.trans s3).trans s4, e4⟩⟩
  · have e : i = ds.length := by omega
    subst e
    exact .inl ⟨j2 _ (Nat.le_refl _), e2, q.2.mono (s1.trans s2)⟩
end

/-! ### defs -/
section
variable {P : Program} {w : World} {K : PySem.W.Frag} {mg : Str → Option Value} {base : Heap} {x qual : S} {st : Stmt} {f : Addr} {fd : FuncData} {N ps : List S} {k : Nat}
def startR (N : List S) (ds : List D) : Rho := ds.map some ++ List.replicate (N.length - ds.length) none
theorem env_start {ds : List D} {vs : List V} {H : Hp} (h : DatAll K H vs ds) : EnvR K H (startR N ds) (L2.start N vs) H := by
  have hl := h.length
  refine ⟨Same.refl H, fun i d hi => ?_, ?_⟩
  · unfold startR at hi
    have hid : ds[i]? = some d := by
      by_cases hil : i < ds.length
      · rw [List.getElem?_append_left (by simpa using hil), List.getElem?_map] at hi
        cases q : ds[i]? with
        | none => rw [q] at hi; cases hi
        | some e => rw [q] at hi; cases hi; rfl
      · rw [List.getElem?_append_right (by simpa using hil), List.getElem?_replicate] at hi
        split at hi <;> cases hi
    obtain ⟨v, hv, dv⟩ := h.get hid
    refine ⟨v, ?_, dv⟩
    unfold L2.start
    have hiv : i < vs.length := (List.getElem?_eq_some_iff.mp hv).1
    rw [List.getElem?_append_left (by simpa using hiv), List.getElem?_map, hv]
    rfl
  · unfold startR L2.start
    simp [hl]
theorem ok_cx {cdv : Value} {A : Around} {outer : List Env} {s : Shared} {H : Hp} {E : XK} (S : FnScope N ps (defScope st)) (hr : Room k (A.deeper (envOfC qual (defScope st) s.heap.objs.size f cdv))) :
    Ok (cxOf CX0 P w K mg base N qual (defScope st) f cdv A outer s H E).nox k := ⟨rfl, hr, S.nd⟩
/-- a def that hands back data -/
theorem fn_P {R : Hp → List D → D → Prop} (F : Fun K x qual st f fd) (S : FnScope N ps (defScope st)) (hlen : ∀ H ds d, R H ds d → ds.length = ps.length)
    (hbody : ∀ (cdv : Value) (A : Around) (outer : List Env) (s : Shared) (H : Hp) (E : XK) (ds : List D) (d : D), Ok (cxOf CX0 P w K mg base N qual (defScope st) f cdv A outer s H E).nox k → R H ds d →
      BS (cxOf CX0 P w K mg base N qual (defScope st) f cdv A outer s H E).nox (defBody st) H (startR N ds) (.ret d)) : FnOk P w K mg base CX0 (k + 1) f fd ps (spP K R) := by
  refine F.ok S (fun vs H Q E h => ?_) (fun cdv A outer s H vs Q E hr h => ?_)
  · obtain ⟨ds, d, h1, h2, _⟩ := h
    rw [h2.length]
    exact hlen H ds d h1
  · obtain ⟨ds, d, h1, h2, q⟩ := h
    exact ⟨_, hbody cdv A outer s H E ds d (ok_cx S hr) h1, env_start h2, fun v H' s' dv => q v H' s' dv⟩
/-- a def that hands back None at its end -/
theorem fn_P0 {R : Hp → List D → D → Prop} (F : Fun K x qual st f fd) (S : FnScope N ps (defScope st)) (hlen : ∀ H ds d, R H ds d → ds.length = ps.length ∧ d = .non)
    (hbody : ∀ (cdv : Value) (A : Around) (outer : List Env) (s : Shared) (H : Hp) (E : XK) (ds : List D) (d : D), Ok (cxOf CX0 P w K mg base N qual (defScope st) f cdv A outer s H E).nox k → R H ds d →
      BS (cxOf CX0 P w K mg base N qual (defScope st) f cdv A outer s H E).nox (defBody st) H (startR N ds) (.nx [])) : FnOk P w K mg base CX0 (k + 1) f fd ps (spP K R) := by
  refine F.ok S (fun vs H Q E h => ?_) (fun cdv A outer s H vs Q E hr h => ?_)
  · obtain ⟨ds, d, h1, h2, _⟩ := h
    rw [h2.length]
    exact (hlen H ds d h1).1
  · obtain ⟨ds, d, h1, h2, q⟩ := h
    refine ⟨_, hbody cdv A outer s H E ds d (ok_cx S hr) h1, env_start h2, fun σ' H' s' e => ?_⟩
    have := (hlen H ds d h1).2
    subst this
    exact q .non H' s' .non
end
end K74

set_option Elab.async false
set_option linter.all false
set_option maxRecDepth 100000
set_option maxHeartbeats 4000000
/-! K74.KL6: slices, sorted and min of names, enumerate of a tuple. -/
namespace K74
open PySem PySem.Spec PyProof.Rows L2

theorem own1 {ρ : Rho} {x : S} {i : Nat} (h : ρ[i]? = some none) : ∀ j ∈ [(x, i)].map (·.2), ρ[j]? = some none ∨ ρ[j]? = none := fun j hj => by
  have : j = i := by simpa using hj
  subst this
  exact .inl h
theorem own2 {ρ : Rho} {x y : S} {i l : Nat} (h : ρ[i]? = some none) (h' : ρ[l]? = some none) : ∀ j ∈ [(x, i), (y, l)].map (·.2), ρ[j]? = some none ∨ ρ[j]? = none := fun j hj => by
  have : j = i ∨ j = l := by simpa using hj
  rcases this with rfl | rfl
  · exact .inl h
  · exact .inl h'
theorem own3 {ρ : Rho} {x y z : S} {i l m : Nat} (h : ρ[i]? = some none) (h' : ρ[l]? = some none) (h'' : ρ[m]? = some none) : ∀ j ∈ [(x, i), (y, l), (z, m)].map (·.2), ρ[j]? = some none ∨ ρ[j]? = none := fun j hj => by
  have : j = i ∨ j = l ∨ j = m := by simpa using hj
  rcases this with rfl | rfl | rfl
  · exact .inl h
  · exact .inl h'
  · exact .inl h''
theorem Ok.blk {X : Cx} {k : Nat} (o : Ok X k) {s : Shared} {H : Hp} {sc : Scope} {ce : Env} {fp : List Addr} : Ok (X.blk s H sc ce fp) k := ⟨o.calm, o.room, o.nd⟩

/-! ### slices -/
section
variable {X : Cx} {B : Hp} {ρ : Rho} {k : Nat} {e a b : Expr} {pos p2 : Pos} {d : D} {xs : List D}
theorem cut_from (vs : List V) (n : Nat) : cutV vs (some (n : Int)) none = vs.drop n := by
  unfold cutV
  rw [HT.sIx_nat, HT.sIx_none]
  have h : vs.drop (min n vs.length) = vs.drop n := by
    by_cases hn : n ≤ vs.length
    · rw [Nat.min_eq_left hn]
    · rw [Nat.min_eq_right (by omega), List.drop_of_length_le (Nat.le_refl _), List.drop_of_length_le (by omega)]
  rw [h, List.take_of_length_le]
  rw [List.length_drop]
  omega
theorem cut_to (vs : List V) (n : Nat) : cutV vs none (some (n : Int)) = vs.take n := by
  unfold cutV
  rw [HT.sIx_nat, HT.sIx_none, List.drop_zero, Nat.sub_zero]
  by_cases hn : n ≤ vs.length
  · rw [Nat.min_eq_left hn]
  · rw [Nat.min_eq_right (by omega), List.take_length, List.take_of_length_le (by omega)]
/-- t[n:], t a tuple -/
theorem ee_from {n : Nat} (ha : EE X a B ρ (.tup xs)) (hb : EE X b B ρ (.int (n : Int))) (h : PE X (.Subscript a (.Slice (some b) none none p2) pos) (tSl (rSlA X.K) (tD X.K B ρ (.tup xs)) (tPart (tD X.K B ρ (.int (n : Int)))) tNoPart)) :
    EE X (.Subscript a (.Slice (some b) none none p2) pos) B ρ (.tup (xs.drop n)) :=
  PE.weak h fun σ H Q q => ⟨q.1, fun v H1 s1 dv => ⟨q.1.mono s1, fun w H2 s2 dw => by
    cases dv with
    | tup ht hd =>
      cases dw
      refine ⟨(n : Int), rfl, _, _, rfl, Same.seqT s2 ht, fun hw => ?_, fun hw p hp => ?_⟩
      · refine q.2 _ _ (s1.trans s2) (.tup (Same.seqT s2 ht) ?_)
        rw [HT.sIx_nat] at hw
        have hn : min n _ = 0 := hw.1
        by_cases h0 : n = 0
        · subst h0
          exact hd.mono s2
        · have hl : xs = [] := by
            have := hd.length
            apply List.eq_nil_of_length_eq_zero
            omega
          subst hl
          rw [List.drop_nil]
          exact hd.mono s2
      · refine q.2 _ _ ((s1.trans s2).trans (Same.new hp)) (.tup (.inl (.inl upd_same)) ?_)
        rw [cut_from]
        exact ((hd.drop n).mono s2).mono (Same.new hp)⟩⟩
/-- t[:n], t a tuple -/
theorem ee_to {n : Nat} (ha : EE X a B ρ (.tup xs)) (hb : EE X b B ρ (.int (n : Int))) (h : PE X (.Subscript a (.Slice none (some b) none p2) pos) (tSl (rSlA X.K) (tD X.K B ρ (.tup xs)) tNoPart (tPart (tD X.K B ρ (.int (n : Int)))))) :
    EE X (.Subscript a (.Slice none (some b) none p2) pos) B ρ (.tup (xs.take n)) :=
  PE.weak h fun σ H Q q => ⟨q.1, fun v H1 s1 dv => ⟨q.1.mono s1, fun w H2 s2 dw => by
    cases dv with
    | tup ht hd =>
      cases dw
      refine ⟨(n : Int), rfl, _, _, rfl, Same.seqT s2 ht, fun hw => ?_, fun hw p hp => ?_⟩
      · refine q.2 _ _ (s1.trans s2) (.tup (Same.seqT s2 ht) ?_)
        rw [HT.sIx_nat] at hw
        have := hd.length
        have h2 := hw.2
        have hl : xs.take n = xs := List.take_of_length_le (by omega)
        rw [hl]
        exact hd.mono s2
      · refine q.2 _ _ ((s1.trans s2).trans (Same.new hp)) (.tup (.inl (.inl upd_same)) ?_)
        rw [cut_to]
        exact ((hd.take n).mono s2).mono (Same.new hp)⟩⟩
/-- xs[:n], xs a list -/
theorem ee_toL {n : Nat} (ha : EE X a B ρ (.lst xs)) (hb : EE X b B ρ (.int (n : Int))) (h : PE X (.Subscript a (.Slice none (some b) none p2) pos) (tSl (rSlL X.K) (tD X.K B ρ (.lst xs)) tNoPart (tPart (tD X.K B ρ (.int (n : Int)))))) :
    EE X (.Subscript a (.Slice none (some b) none p2) pos) B ρ (.lst (xs.take n)) :=
  PE.weak h fun σ H Q q => ⟨q.1, fun v H1 s1 dv => ⟨q.1.mono s1, fun w H2 s2 dw => by
    cases dv with
    | lst ht hd =>
      cases dw
      refine ⟨(n : Int), rfl, _, _, rfl, SqL.of (s2 _ _ ht), fun p hp => ?_⟩
      refine q.2 _ _ ((s1.trans s2).trans (Same.new hp)) (.lst upd_same ?_)
      rw [cut_to]
      exact ((hd.take n).mono s2).mono (Same.new hp)⟩⟩
end

/-! ### names in order -/
theorem lt_ltCps : ∀ a b : List Nat, decide (a < b) = Spec.ltCps a b
  | [], [] => rfl
  | [], _ :: _ => by simp [Spec.ltCps]
  | _ :: _, [] => by simp [Spec.ltCps]
  | x :: r, y :: t => by
    have ih := lt_ltCps r t
    show decide (x :: r < y :: t) = (decide (x < y) || (x == y && Spec.ltCps r t))
    rw [← ih]
    rw [Bool.eq_iff_iff]
    simp only [decide_eq_true_eq, Bool.or_eq_true, Bool.and_eq_true, beq_iff_eq, List.cons_lt_cons_iff]
theorem ltS_eq (a b : S) : ltS a b = Spec.ltCps a.cps.toList b.cps.toList := lt_ltCps _ _
def leS (a b : S) : Bool := !ltS b a
theorem leS_iff {a b : S} : leS a b = true ↔ a.cps.toList ≤ b.cps.toList := by
  unfold leS ltS
  simp
theorem leS_trans {a b c : S} (h : leS a b = true) (h' : leS b c = true) : leS a c = true := by
  rw [leS_iff] at *
  exact Std.le_trans h h'
theorem leS_total (a b : S) : (leS a b || leS b a) = true := by
  rw [Bool.or_eq_true, leS_iff, leS_iff]
  exact Std.le_total
theorem leS_anti {a b : S} (h : leS a b = true) (h' : leS b a = true) : a = b := by
  rw [leS_iff] at *
  have e := Std.le_antisymm h h'
  cases a
  cases b
  congr 1
  exact Array.toList_inj.mp e
def sortS (xs : List S) : List S := xs.mergeSort leS
theorem sortS_perm (xs : List S) : (sortS xs).Perm xs := List.mergeSort_perm _ _
theorem sortS_sorted (xs : List S) : (sortS xs).Pairwise (fun a b => leS a b = true) := List.pairwise_mergeSort (le := leS) (fun a b c h h' => leS_trans h h') leS_total xs
theorem sorted_eq : ∀ {xs ys : List S}, xs.Perm ys → xs.Pairwise (fun a b => leS a b = true) → ys.Pairwise (fun a b => leS a b = true) → xs = ys
  | [], ys, h, _, _ => (List.nil_perm.mp h).symm
  | x :: xs, [], h, _, _ => absurd h.length_eq (by simp)
  | x :: xs, y :: ys, h, h1, h2 => by
    have hx : x ∈ y :: ys := h.mem_iff.mp List.mem_cons_self
    have hy : y ∈ x :: xs := h.mem_iff.mpr List.mem_cons_self
    obtain ⟨a1, a2⟩ := List.pairwise_cons.mp h1
    obtain ⟨b1, b2⟩ := List.pairwise_cons.mp h2
    have e : x = y := by
      rcases List.mem_cons.mp hx with e | hx
      · exact e
      · rcases List.mem_cons.mp hy with e | hy
        · exact e.symm
        · exact leS_anti (a1 y hy) (b1 x hx)
    subst e
    rw [sorted_eq (List.perm_cons x |>.mp h) a2 b2]
theorem rising_pairwise : ∀ {xs : List S} {p : S}, risingS p xs = true → (p :: xs).Pairwise (fun a b => leS a b = true)
  | [], p, _ => List.pairwise_singleton _ _
  | x :: r, p, h => by
    have h' : (!Spec.ltCps x.cps.toList p.cps.toList && risingS x r) = true := h
    rw [Bool.and_eq_true] at h'
    have ih := rising_pairwise h'.2
    have hpx : leS p x = true := by unfold leS; rw [ltS_eq]; exact h'.1
    refine List.pairwise_cons.mpr ⟨fun a ha => ?_, ih⟩
    rcases List.mem_cons.mp ha with rfl | ha
    · exact hpx
    · exact leS_trans hpx ((List.pairwise_cons.mp ih).1 a ha)
theorem sortedS_pairwise {xs : List S} (h : sortedS xs = true) : xs.Pairwise (fun a b => leS a b = true) := by
  cases xs with
  | nil => exact List.Pairwise.nil
  | cons x r => exact rising_pairwise h
theorem sortS_of {xs ys : List S} (h : ys.Perm xs) (hs : sortedS ys = true) : ys = sortS xs := sorted_eq (h.trans (sortS_perm xs).symm) (sortedS_pairwise hs) (sortS_sorted xs)

section
variable {X : Cx} {B : Hp} {ρ : Rho} {k : Nat} {e a b : Expr} {pos p : Pos} {d : D} {xs : List S}
theorem en_sortedS (hm : X.mg "sorted" = none) (ha : EE X a B ρ (.lst (xs.map D.str))) (hl : xs.length < 64) (hg : Gl X "sorted" := by rfl) (hs : starEach [a] X.env = (false, eval a X.env) :: starEach [] X.env := by rfl) :
    EN X (.Call (.Name "sorted" p) [a] [] pos) B ρ ((sortS xs).map D.str) :=
  PE.weak (pe_callB cr_sortedS hg hm (by decide +kernel) (pa_cons ha pa_nil hs) (he := hs)) fun σ H Q q => ⟨q.1, fun v H1 s1 dv => by
    cases dv with
    | lst h t =>
      obtain rfl := t.strs
      refine ⟨_, xs, rfl, SqL.of h, hl, fun ys l hp hsd hnew => ?_⟩
      rw [sortS_of hp hsd]
      exact q.2 _ _ _ (s1.free hnew) (s1.trans (Same.new hnew)) upd_same DatAll.of_strs⟩
theorem ee_sortedS (hm : X.mg "sorted" = none) (ha : EE X a B ρ (.lst (xs.map D.str))) (hl : xs.length < 64) (hg : Gl X "sorted" := by rfl) (hs : starEach [a] X.env = (false, eval a X.env) :: starEach [] X.env := by rfl) :
    EE X (.Call (.Name "sorted" p) [a] [] pos) B ρ (.lst ((sortS xs).map D.str)) := (en_sortedS hm ha hl hg hs).ee

/-! ### min of names -/
theorem CmpOf.strs {prog : Program} {w : World} {A : Around} {P : Nat → Value → Prop} (val : Nat → S) (hval : ∀ i v, P i v → ∃ t, v = .str (val i) t) :
    CmpOf prog w A .Lt P (fun i j => ltS (val i) (val j)) := fun i j vi vj s Q E hi hj h => by
  obtain ⟨t, rfl⟩ := hval i vi hi
  obtain ⟨u, rfl⟩ := hval j vj hj
  exact DT.rcLt_str A s _ t _ u prog w E Q h
theorem argBest_min (x : S) (r : List S) : (x :: r).getD (argBest (fun i j => ltS ((x :: r).getD i sE) ((x :: r).getD j sE)) r.length) sE = minS (x :: r) := by
  have go : ∀ n, n ≤ r.length → (x :: r).getD (argBest (fun i j => ltS ((x :: r).getD i sE) ((x :: r).getD j sE)) n) sE = (r.take n).foldl (fun m y => if ltS y m then y else m) x := by
    intro n
    induction n with
    | zero => intro _; rfl
    | succ n ih =>
      intro hn
      have ih := ih (by omega)
      have hr : r[n]? = some r[n] := List.getElem?_eq_getElem (by omega)
      have e1 : (x :: r).getD (n + 1) sE = r[n] := by rw [List.getD_eq_getElem?_getD, List.getElem?_cons_succ, hr]; rfl
      have e2 : r.take (n + 1) = r.take n ++ [r[n]] := by rw [List.take_add_one, hr]; rfl
      rw [e2, List.foldl_append, ← ih]
      have e3 : argBest (fun i j => ltS ((x :: r).getD i sE) ((x :: r).getD j sE)) (n + 1) = if ltS ((x :: r).getD (n + 1) sE) ((x :: r).getD (argBest (fun i j => ltS ((x :: r).getD i sE) ((x :: r).getD j sE)) n) sE) = true then n + 1 else argBest (fun i j => ltS ((x :: r).getD i sE) ((x :: r).getD j sE)) n := rfl
      rw [e3]
      generalize argBest (fun i j => ltS ((x :: r).getD i sE) ((x :: r).getD j sE)) n = m
      rw [e1]
      show _ = if ltS r[n] ((x :: r).getD m sE) = true then r[n] else (x :: r).getD m sE
      split
      · exact e1
      · rfl
  have := go r.length (Nat.le_refl _)
  rw [List.take_length] at this
  exact this
theorem cr_minS (hc : X.calm = true) : CallR X (.builtin "min") (fun vs H Q => ∃ (a : Addr) (xs : List S), vs = [V.ref a] ∧ H a = some (.lst (xs.map V.str)) ∧ xs ≠ [] ∧ Q (.str (minS xs)) H) := by
  intro pins s σ H vs us Q I r h
  obtain ⟨a, xs, rfl, ha, hne, q⟩ := h
  obtain ⟨its, rv, hl, _⟩ := I.list (SqL.of ha)
  rw [Vals.ref1 r]
  have hlen : its.length = xs.length := by rw [← rv.length, List.length_map]
  have hval : ∀ (i : Nat) (v : Value), its.toArray[i]? = some v → ∃ t, v = .str (xs.getD i sE) t := fun i v hv => by
    have hv' : its[i]? = some v := by simpa using hv
    have hi : i < xs.length := by
      have := (List.getElem?_eq_some_iff.mp hv').1
      omega
    have hx : (xs.map V.str)[i]? = some (.str (xs.getD i sE)) := by
      rw [List.getElem?_map, List.getD_eq_getElem?_getD, List.getElem?_eq_getElem hi]
      rfl
    obtain ⟨u, hu, ru⟩ := rv.get hx
    rw [hv'] at hu
    cases hu
    exact ru
  refine call_min_walk ?_
  have hlt : a < s.heap.objs.size := by obtain ⟨_, e, _⟩ := hl.isList; exact Heap.lt_size e
  refine wpAny_pyIter_list hl.isList ?_
  refine ⟨_, [s.heap.objs.size, a], [s.heap.objs.size], _, _, _, _, rfl, Walks.list (A := X.A.in1) (I.ok.hd hc) _ a (Nat.ne_of_lt hlt) its.toArray, ⟨⟨_, Heap.get?_push_size _ rfl, rfl, rfl⟩, hl.isList.push _⟩, fun b hb => ?_, ?_, CmpOf.strs (fun i => xs.getD i sE) hval, fun v h' tk hP hk => ?_⟩
  · show b < (s.heap.push _).objs.size
    rw [Heap.size_push]
    rcases List.mem_cons.mp hb with rfl | hb
    · exact Nat.lt_succ_self _
    · rcases List.mem_cons.mp hb with rfl | hb
      · exact Nat.lt_succ_of_lt hlt
      · cases hb
  · have : 0 < xs.length := List.length_pos_iff.mpr hne
    simpa [hlen] using this
  · obtain ⟨t, rfl⟩ := hval _ _ hP
    have hk' : ∀ b o, s.heap.get? b = some o → h'.get? b = some o := fun b o e => by
      refine hk b o (fun hm => ?_) (Heap.get?_push_of_some _ e)
      rcases List.mem_cons.mp hm with e1 | hm
      · exact absurd (e1 ▸ Heap.lt_size e) (Nat.lt_irrefl _)
      · cases hm
    refine ⟨.str (minS xs), H, I.kept (t' := tk) hk', ?_, q⟩
    cases xs with
    | nil => exact absurd rfl hne
    | cons x r =>
      have e1 : its.toArray.size - 1 = r.length := by simp [hlen]
      rw [e1, argBest_min]
      exact ⟨t, rfl⟩
theorem ee_minS (o : Ok X k) (hm : X.mg "min" = none) (ha : EE X a B ρ (.lst (xs.map D.str))) (hne : xs ≠ []) (hg : Gl X "min" := by rfl) (hs : starEach [a] X.env = (false, eval a X.env) :: starEach [] X.env := by rfl) :
    EE X (.Call (.Name "min" p) [a] [] pos) B ρ (.str (minS xs)) :=
  PE.weak (pe_callB (cr_minS o.calm) hg hm (by decide +kernel) (pa_cons ha pa_nil hs) (he := hs)) fun σ H Q q => ⟨q.1, fun v H1 s1 dv => by
    cases dv with
    | lst h t =>
      obtain rfl := t.strs
      exact ⟨_, xs, rfl, h, hne, q.2 _ H1 s1 (.str _)⟩⟩
end
end K74

set_option Elab.async false
set_option linter.all false
set_option maxRecDepth 100000
set_option maxHeartbeats 4000000
/-! K74.KL7: enumerate of a tuple. -/
namespace K74
open PySem PySem.Spec PyProof.Rows L2
open Sem (wp)
open AutoSeq1 (wpAny_loadPart')

theorem meets_enumerate_newT (l : Addr) (items : Array Value) (n : Nat) (dct : Option Addr) (sl : Array (Option Value)) :
    Meets (Builtin.«enumerate.__new__» ⟨[.type "enumerate", .ref l], []⟩) (fun _ R s => s.heap.get? l = some { cls := .type "tuple", dict := dct, data := .seq items n, slots := sl } ∧
      R (.ok (.ret (.ref (s.heap.push { cls := .type "tuple_iterator", data := .fields #[.ref l, .int 0 0] }).objs.size)))
        { s with heap := (s.heap.push { cls := .type "tuple_iterator", data := .fields #[.ref l, .int 0 0] }).push { cls := .type "enumerate", data := .fields #[.none, .bool false, .ref s.heap.objs.size, rawInt 0, .none, .none] } }) :=
  .of_wp fun prog w A R s h => by
    obtain ⟨hp, g, d, tk, os⟩ := s; obtain ⟨hl, h⟩ := h
    have hsub := sub_enumerate
    have hL : Heap.IsTuple (Shared.heap ⟨hp, g, d, tk, os⟩) l items := ⟨_, hl, rfl, n, rfl⟩
    wp_walk using wpAny_loadPart' hl
    refine wpAny_stack_any fun st => wpAny_pure ?_
    split
    · rename_i c _ _ _ _ _
      cases (c == Value.type "enumerate")
      · wp_walk using wpAny_loadPart' hl, wpAny_pyIter_tuple hL
        exact ⟨_, rfl, h⟩
      · wp_walk using wpAny_loadPart' hl, wpAny_pyIter_tuple hL
        exact ⟨_, rfl, h⟩
    · wp_walk using wpAny_loadPart' hl, wpAny_pyIter_tuple hL
      exact ⟨_, rfl, h⟩
section
variable {prog : Program} {w : World} {A : Around} {E : Value → Shared → Prop} {s : Shared}
theorem call_enumerate_tuple {l : Addr} {items : Array Value} {Q : Value → Shared → Prop} (hL : s.heap.IsTuple l items)
    (h : ∀ h', IsEnum h' (s.heap.objs.size + 1) s.heap.objs.size 0 .none → h'.IsTupleIter s.heap.objs.size l 0 → h'.objs.size = s.heap.objs.size + 2 →
      (∀ b o, s.heap.get? b = some o → h'.get? b = some o) → Q (.ref (s.heap.objs.size + 1)) { s with heap := h' }) :
    wpAny (model prog w) A (call (.type "enumerate") [.ref l]) Q E s := by
  obtain ⟨⟨c, dct, dt, sl⟩, hl, hc, n, hd⟩ := hL
  replace hc : c = .type "tuple" := hc
  replace hd : dt = .seq items n := hd
  subst hc hd
  refine callType_new F.called_enumerate (by decide) (F.typeCall_enumerate_1 _) (F.newCall_enumerate_1 _) (fun obj => F.args_object_init_2 obj _) F.entry_enumerate_new
    (meets_enumerate_newT l items n dct sl) ⟨hl, ?_⟩
  have hz : (s.heap.push { cls := .type "tuple_iterator", data := .fields #[.ref l, .int 0 0] }).objs.size = s.heap.objs.size + 1 := Heap.size_push ..
  show _ ∧ _
  rw [hz]
  have he : IsEnum ((s.heap.push { cls := .type "tuple_iterator", data := .fields #[.ref l, .int 0 0] }).push
      { cls := .type "enumerate", data := .fields #[.none, .bool false, .ref s.heap.objs.size, rawInt 0, .none, .none] }) (s.heap.objs.size + 1) s.heap.objs.size 0 .none := by
    have := Heap.get?_push_size (s.heap.push { cls := .type "tuple_iterator", data := .fields #[.ref l, .int 0 0] })
      (o := { cls := .type "enumerate", data := .fields #[.none, .bool false, .ref s.heap.objs.size, rawInt 0, .none, .none] }) rfl
    rw [hz] at this; exact this
  refine ⟨⟨_, he, rfl⟩, h _ he ⟨_, Heap.get?_push_of_some _ (Heap.get?_push_size _ rfl), rfl, rfl⟩ (by rw [Heap.size_push, hz]) fun b o x => Heap.get?_push_of_some _ (Heap.get?_push_of_some _ x)⟩
end
/-- the tuple at a, each item in a new pair -/
def IteT (K : PySem.W.Frag) (a : Addr) : It :=
  ⟨fun i H => ∃ (xs : List V) (x : V), SqT K H a xs ∧ xs[i]? = some x, fun i H v H' => ∃ T x, v = .ref T ∧ H T = none ∧ H' = upd H T (.tup [.int (i : Nat), x]) ∧ ∀ xs, SqT K H a xs → xs[i]? = some x, fun i H => ∃ xs : List V, SqT K H a xs ∧ xs.length ≤ i⟩
theorem turn_enumT {P : Program} {w : World} {K : PySem.W.Frag} {elts : List Expr} {kk : Nat} {tpos : Pos} (a e it : Addr) :
    Turn P w K (.Tuple elts kk tpos) (IteT K a) [e, it] e (fun i h => (∃ old, IsEnum h e it ((i : Nat) : Int) old) ∧ h.IsTupleIter it a i ∧ e ≠ it ∧ a ≠ it ∧ a ≠ e) where
  mem := by simp
  obj := fun i h st b hb => by
    obtain ⟨⟨old, he⟩, ⟨o, ho, hc, hd⟩, _⟩ := st
    have e' : b = e ∨ b = it := by simpa using hb
    rcases e' with z | z
    · rw [z]; exact ⟨_, he, fun v q => nomatch q⟩
    · rw [z]; exact ⟨o, ho, fun v q => by rw [hd] at q; cases q⟩
  keep := fun i h h' st k => let ⟨⟨old, he⟩, hi, hne⟩ := st; ⟨⟨old, k e (by simp) _ he⟩, hi.at fun o q => k it (by simp) o q, hne⟩
  item := by
    intro X hP hw hK hc i pins s σ H E I hf st hg
    subst hP hw hK
    obtain ⟨⟨old, he⟩, hit, hne, hai, hae⟩ := st
    obtain ⟨xs, x, hq, hx⟩ := hg
    obtain ⟨its, rv, p, hz⟩ := I.tuple hq
    obtain ⟨u, hu, ru⟩ := rv.get hx
    have hel : e < s.heap.objs.size := Heap.lt_size he
    have hil : it < s.heap.objs.size := by obtain ⟨_, q, _⟩ := hit; exact Heap.lt_size q
    have hlt : i < its.toArray.size := by
      have := (List.getElem?_eq_some_iff.mp hu).1
      simpa using this
    refine wpAny_pyNext_enum_itemD (Draws.tuple (A := X.A.in1) (I.ok.hd hc) it a hai its.toArray) he ⟨hit, p⟩ hlt hne (by simp [hne, Ne.symm hae]) fun x' h' tk hx' ho hst hT hsz hk => ?_
    have eu : x' = u := by
      have : its[i]? = some x' := by simpa using hx'
      rw [hu] at this
      cases this
      rfl
    subst eu
    obtain ⟨hit', _⟩ := hst
    refine ⟨_, rfl, wpAny_letOwnedTupleGo_enum (s := { s with heap := h', toks := tk + 1 }) ho fun h'' he' sb => ?_⟩
    have hT2 : h''.get? s.heap.objs.size = some { cls := .type "tuple", data := .seq #[.int i tk, x'] } := (sb.2 _ (Nat.ne_of_gt hel)).trans hT
    have new : ObjOk X.prog X.w (upd H s.heap.objs.size (.tup [.int (i : Nat), x])) h'' s.heap.objs.size (.tup [.int (i : Nat), x]) :=
      ⟨by show 2 ≤ sizeLine; decide, [.int i tk, x'], .cons ⟨_, rfl⟩ (.cons ru .nil), ⟨_, hT2, rfl, _, rfl⟩⟩
    have I1 : Inv X pins σ (upd H s.heap.objs.size (.tup [.int (i : Nat), x])) { s with heap := h'', toks := tk + 1 } :=
      I.turnedNew (ch := [e, it]) (fun b ob hb q => (sb.2 b (fun z => hb (by simp [z]))).trans (hk b ob (fun z => hb (by simp [z])) (fun z => hb (by simp [z])) q)) hf (Nat.le_refl _) new
    refine ⟨.ref s.heap.objs.size, _, I1, rfl, ⟨_, x, rfl, I.hok.fresh (Nat.le_refl _), rfl, fun ys hy => by rw [I.tuple_inj hy hq]; exact hx⟩, ⟨⟨x', ?_⟩, hit'.at fun o q => (sb.2 it (Ne.symm hne)).trans q, hne, hai, hae⟩, fun b hb => ?_⟩
    · have e1 : ((i + 1 : Nat) : Int) = (i : Int) + 1 := by omega
      rw [e1]; exact he'
    · have hb' : b < s.heap.objs.size := by
        have e' : b = e ∨ b = it := by simpa using hb
        rcases e' with z | z
        · rw [z]; exact hel
        · rw [z]; exact hil
      rw [upd_ne (Nat.ne_of_lt hb')]
      exact (hf b hb).1
  done := by
    intro X hP hw hK hc i pins s σ H E I hf st hg
    subst hP hw hK
    obtain ⟨⟨old, he⟩, hit, hne, hai, hae⟩ := st
    obtain ⟨xs, hq, hx⟩ := hg
    obtain ⟨its, rv, p, hz⟩ := I.tuple hq
    obtain ⟨f0, f1, f2, f3, f4, f5⟩ := hf it (by simp)
    have hl := rv.length
    have hlt : i ≥ its.toArray.size := by simp; omega
    have hT : s.TypeIs (.ref e) "enumerate" := ⟨_, he, rfl⟩
    unfold pyNext
    refine wpAny_bind (wpAny_attempt (wpAny_callSpecial?_slot (name := Str.ofString "__next__") hT F.slot_enumerate_next
      (wpAny_call_entry F.slot_enumerate_next hT F.entry_enumerate_next ?_ (F.args_enumerate_next_1 _))))
    show wpAny _ _ (field (.ref e) 2 >>= _) _ _ _
    refine wpAny_bind (wpAny_field he rfl (x := .ref it) rfl ?_)
    refine wpAny_bind (wpAny_nextOf_tuple_end (I.ok.hd hc) hit p (Array.getElem?_eq_none hlt) fun h' x he' hx' => ?_)
    obtain ⟨o, ho, hc'⟩ := hx'
    refine wpAny_bind (wpAny_isInstance (T := "StopIteration") (b := true) ⟨o, ho, hc'⟩ isSubtype_stop ?_)
    exact wpAny_pure ⟨rfl, I.turned (t' := s.toks) (fun b o hb q => he' b o hb q) f0 f1 f3 f4 f5⟩
  self := fun A i s Q E st h => let ⟨⟨_, he⟩, _⟩ := st; wpAny_pyIter_enum he h
def iEnumT (K : PySem.W.Frag) (ta : TA) : TI := fun σ H R => ta σ H fun vs H1 => ∃ a xs, vs = [.ref a] ∧ SqT K H1 a xs ∧ R (IteT K a) H1
theorem pi_enumT {X : Cx} {e : Expr} {ta : TA} {p pos tpos : Pos} {elts : List Expr} {kk : Nat} (hg : Gl X "enumerate") (hm : X.mg "enumerate" = none) (ha : PA X [e] ta) (hs : starEach [e] X.env = [(false, eval e X.env)] := by rfl) :
    PI X (.Tuple elts kk tpos) (.Call (.Name "enumerate" p) [e] [] pos) (iEnumT X.K ta) := by
  refine ⟨fun pins s σ H R I h => ?_⟩
  refine PyProof.Rows.Call_ (ld_blt I hg hm boot_enumerate (PyProof.Rows.callWith_type1 (thn (ha.run pos pins s σ H _ I h) fun us s1 ⟨vs, H1, I1, r1, q1⟩ => ?_) hs rfl))
  obtain ⟨a, xs, ex, hq, q⟩ := q1
  subst ex
  cases r1 with
  | cons r rr =>
    cases rr
    cases r
    obtain ⟨its, rv, p', hz⟩ := I1.tuple hq
    have hal : a < s1.heap.objs.size := p'.lt
    refine call_enumerate_tuple p' fun h' he hit hsz hk => wpAny_pyIter_enum he ?_
    have I2 : Inv X pins σ H1 { s1 with heap := h' } := I1.kept (t' := s1.toks) hk
    refine ⟨s1.heap.objs.size + 1, [s1.heap.objs.size + 1, s1.heap.objs.size], _, _, H1, rfl, I2, turn_enumT a (s1.heap.objs.size + 1) s1.heap.objs.size, ⟨⟨.none, he⟩, hit, Nat.succ_ne_self _, Nat.ne_of_lt hal, Nat.ne_of_lt (Nat.lt_succ_of_lt hal)⟩, fun b hb => ?_, q⟩
    have e' : b = s1.heap.objs.size + 1 ∨ b = s1.heap.objs.size := by simpa using hb
    have hle : s1.heap.objs.size ≤ b := by
      rcases e' with z | z
      · rw [z]; exact Nat.le_add_right _ _
      · rw [z]; exact Nat.le_refl _
    exact I1.fpOk hle (I1.hok.fresh hle)
/-- for i, x in enumerate(a tuple) -/
theorem si_enum {X : Cx} {B : Hp} {ρ : Rho} {e : Expr} {p pos tpos : Pos} {elts : List Expr} {kk : Nat} {xs : List D} (hm : X.mg "enumerate" = none) (h : EE X e B ρ (.tup xs)) (hg : Gl X "enumerate" := by rfl) (hs : starEach [e] X.env = [(false, eval e X.env)] := by rfl) :
    SI X (.Tuple elts kk tpos) (.Call (.Name "enumerate" p) [e] [] pos) B ρ ((List.range xs.length).map fun i => .tup [.int (i : Nat), xs.getD i .non]) :=
  ⟨_, pi_enumT hg hm (pa_cons h pa_nil hs) hs, fun σ H R he q => ⟨he, fun v H1 s1 dv => by
    cases dv with
    | @tup a vs ds h1 a1 =>
      refine ⟨a, vs, rfl, h1, q _ H1 s1 fun H' s' => ⟨fun i d hd => ?_, fun i hi => ⟨vs, Same.seqT s' h1, by rw [a1.length]; simpa using hi⟩⟩⟩
      rw [List.getElem?_map] at hd
      have hi : i < xs.length := by
        cases h : (List.range xs.length)[i]? with
        | none => rw [h] at hd; cases hd
        | some j =>
          have := (List.getElem?_eq_some_iff.mp h).1
          simpa using this
      rw [List.getElem?_range hi] at hd
      cases hd
      have hx : xs[i]? = some (xs.getD i .non) := by rw [List.getD_eq_getElem?_getD, List.getElem?_eq_getElem hi]; rfl
      obtain ⟨v, hv, dv⟩ := a1.get hx
      refine ⟨⟨vs, v, Same.seqT s' h1, hv⟩, fun v' H'' ⟨T, x, e1, hT, e2, e3⟩ => ?_⟩
      subst e1
      subst e2
      have hx' := e3 vs (Same.seqT s' h1)
      rw [hv] at hx'
      cases hx'
      exact ⟨Same.new hT, .tup (.inl (.inl upd_same)) (.cons (.int _) (.cons ((dv.mono s').mono (Same.new hT)) .nil))⟩⟩⟩
end K74

set_option Elab.async false
set_option linter.all false
set_option maxRecDepth 100000
set_option maxHeartbeats 4000000
/-! K74.KW1: from one state to the next: what holds behind an expression, a block, from this state. -/
namespace K74
open PySem PySem.Spec PyProof.Rows L2

structure WE (X : Cx) (e : Expr) (σ : L2.St) (H : Hp) (Q : VK) : Prop where
  run : ∀ (pins : List (Addr × Obj)) (s : Shared), Inv X pins σ H s → wpAny (model X.prog X.w) X.A (eval e X.env) (EP X pins σ Q) X.xe s
structure WT (X : Cx) (e : Expr) (σ : L2.St) (H : Hp) (Q : Bool → Hp → Prop) : Prop where
  run : ∀ (pins : List (Addr × Obj)) (s : Shared), Inv X pins σ H s → wpAny (model X.prog X.w) X.A (isTrue e X.env (eval e X.env)) (TP X pins σ Q) X.xe s
structure WA (X : Cx) (es : List Expr) (σ : L2.St) (H : Hp) (Q : List V → Hp → Prop) : Prop where
  run : ∀ (pos : Pos) (pins : List (Addr × Obj)) (s : Shared), Inv X pins σ H s → wpAny (model X.prog X.w) X.A (spliced (backTo pos (starEach es X.env))) (AP X pins σ Q) X.xe s
structure WS (X : Cx) (st : List Stmt) (Dn : Ends) (σ : L2.St) (H : Hp) : Prop where
  run : ∀ (pins : List (Addr × Obj)) (s : Shared), Inv X pins σ H s → wpAny (model X.prog X.w) X.A (execs st X.env) (SP X pins Dn) X.xe s
structure WG (X : Cx) (tg : Expr) (v : V) (σ : L2.St) (H : Hp) (Q : L2.St → Hp → Prop) : Prop where
  run : ∀ (pins : List (Addr × Obj)) (s : Shared) (u : Value), Inv X pins σ H s → RelV v u → wpAny (model X.prog X.w) X.A (assign tg X.env u) (fun _ s' => ∃ σ' H', Inv X pins σ' H' s' ∧ Q σ' H') X.xe s
structure WI (X : Cx) (tg e : Expr) (σ : L2.St) (H : Hp) (R : It → Hp → Prop) : Prop where
  run : ∀ (pins : List (Addr × Obj)) (s : Shared), Inv X pins σ H s → wpAny (model X.prog X.w) X.A (eval e X.env) (fun v s1 => wpAny (model X.prog X.w) X.A (pyIter v) (PIE X pins σ tg R) X.xe s1) X.xe s

section
variable {X : Cx} {e a b c : Expr} {es : List Expr} {st : Stmt} {rest body orelse : List Stmt} {σ : L2.St} {H B : Hp} {Q : VK} {tg : Expr} {pos p p' p1 p2 : Pos} {Dn : Ends} {k : Nat} {x : S}
theorem pe_w : PE X e (WE X e) := ⟨fun pins s σ H Q I q => q.run pins s I⟩
theorem pt_w : PT X e (WT X e) := ⟨fun pins s σ H Q I q => q.run pins s I⟩
theorem pa_w : PA X es (WA X es) := ⟨fun pos pins s σ H Q I q => q.run pos pins s I⟩
theorem pss_w : PSs X rest (WS X rest) := ⟨fun pins s σ H Dn I q => q.run pins s I⟩
theorem pg_w : PG X tg (WG X tg) := ⟨fun pins s σ H v u Q I r q => q.run pins s u I r⟩
theorem pi_w : PI X tg e (WI X tg e) := ⟨fun pins s σ H R I q => q.run pins s I⟩
theorem we_of {t : TE} (h : PE X e t) (q : t σ H Q) : WE X e σ H Q := ⟨fun pins s I => h.run pins s σ H Q I q⟩
theorem wt_of {t : TT} {Q : Bool → Hp → Prop} (h : PT X e t) (q : t σ H Q) : WT X e σ H Q := ⟨fun pins s I => h.run pins s σ H Q I q⟩
theorem wa_of {t : TA} {Q : List V → Hp → Prop} (h : PA X es t) (q : t σ H Q) : WA X es σ H Q := ⟨fun pos pins s I => h.run pos pins s σ H Q I q⟩
theorem wss_of {t : TS} (h : PSs X rest t) (q : t Dn σ H) : WS X rest Dn σ H := ⟨fun pins s I => h.run pins s σ H Dn I q⟩
theorem wg_of {g : TG} {v : V} {Q : L2.St → Hp → Prop} (h : PG X tg g) (q : g v σ H Q) : WG X tg v σ H Q := ⟨fun pins s u I r => h.run pins s σ H v u Q I r q⟩
theorem wi_of {wi : TI} {R : It → Hp → Prop} (h : PI X tg e wi) (q : wi σ H R) : WI X tg e σ H R := ⟨fun pins s I => h.run pins s σ H R I q⟩
theorem WE.mono {Q' : VK} (h : WE X e σ H Q) (q : ∀ v H', Q v H' → Q' v H') : WE X e σ H Q' := ⟨fun pins s I => thn (h.run pins s I) fun u s' ⟨v, H', I', r, z⟩ => ⟨v, H', I', r, q v H' z⟩⟩
theorem WT.mono {Q Q' : Bool → Hp → Prop} (h : WT X e σ H Q) (q : ∀ v H', Q v H' → Q' v H') : WT X e σ H Q' := ⟨fun pins s I => thn (h.run pins s I) fun u s' ⟨H', I', z⟩ => ⟨H', I', q u H' z⟩⟩
theorem WS.mono {Dn' : Ends} (h : WS X rest Dn σ H) (n : ∀ σ' H', Dn.nx σ' H' → Dn'.nx σ' H') (r : ∀ v H', Dn.rt v H' → Dn'.rt v H') (b : ∀ σ' H', Dn.bk σ' H' → Dn'.bk σ' H') (c : ∀ σ' H', Dn.ct σ' H' → Dn'.ct σ' H') : WS X rest Dn' σ H := ⟨fun pins s I => thn (h.run pins s I) fun f s' z => by
  cases f with
  | next => obtain ⟨σ', H', I', q⟩ := z; exact ⟨σ', H', I', n _ _ q⟩
  | brk => obtain ⟨σ', H', I', q⟩ := z; exact ⟨σ', H', I', b _ _ q⟩
  | cont => obtain ⟨σ', H', I', q⟩ := z; exact ⟨σ', H', I', c _ _ q⟩
  | ret u => obtain ⟨v, σ', H', I', rv, q⟩ := z; exact ⟨v, σ', H', I', rv, r _ _ q⟩⟩

/-! ### from the data layer -/
/-- the slots' data -/
inductive EL (K : PySem.W.Frag) (H : Hp) : Rho → L2.St → Prop
  | nil {σ : L2.St} : EL K H [] σ
  | cons {d : K74.D} {v : V} {ρ : Rho} {σ : L2.St} : Dat K H v d → EL K H ρ σ → EL K H (some d :: ρ) (some v :: σ)
  | skip {o : Option V} {ρ : Rho} {σ : L2.St} : EL K H ρ σ → EL K H (none :: ρ) (o :: σ)
theorem EL.get {K : PySem.W.Frag} : ∀ {ρ : Rho} {σ : L2.St}, EL K H ρ σ → (∀ (i : Nat) (d : K74.D), ρ[i]? = some (some d) → ∃ v, σ[i]? = some (some v) ∧ Dat K H v d) ∧ ρ.length ≤ σ.length
  | _, _, .nil => ⟨fun i d h => by simp at h, Nat.zero_le _⟩
  | _, _, .cons h r => ⟨fun i d hi => by
      cases i with
      | zero => simp at hi; subst hi; exact ⟨_, rfl, h⟩
      | succ i => simpa using (EL.get r).1 i d (by simpa using hi), by simpa using (EL.get r).2⟩
  | _, _, .skip r => ⟨fun i d hi => by
      cases i with
      | zero => simp at hi
      | succ i => simpa using (EL.get r).1 i d (by simpa using hi), by simpa using (EL.get r).2⟩
theorem EL.env {K : PySem.W.Frag} {ρ : Rho} (h : EL K H ρ σ) (s : Same B H) : EnvR K B ρ σ H := ⟨s, h.get.1, h.get.2⟩
theorem EL.mono {K : PySem.W.Frag} {H H' : Hp} (s : Same H H') : ∀ {ρ : Rho} {σ : L2.St}, EL K H ρ σ → EL K H' ρ σ
  | _, _, .nil => .nil
  | _, _, .cons h r => .cons (h.mono s) (EL.mono s r)
  | _, _, .skip r => .skip (EL.mono s r)
theorem EL.of_all {K : PySem.W.Frag} {n : Nat} {vs : List V} {ds : List K74.D} (h : DatAll K H vs ds) : EL K H (ds.map some) (vs.map some ++ List.replicate n none) := by
  induction vs generalizing ds with
  | nil => cases h; exact .nil
  | cons v vs ih => cases h with | cons h t => exact .cons h (ih t)
theorem we_ee {ρ : Rho} {d : K74.D} (h : EE X e H ρ d) (he : EL X.K H ρ σ) (q : ∀ v H', Same H H' → Dat X.K H' v d → Q v H') : WE X e σ H Q := we_of h ⟨he.env (Same.refl H), q⟩
theorem wt_et {ρ : Rho} {z : Bool} {Q : Bool → Hp → Prop} (h : ET X e H ρ z) (he : EL X.K H ρ σ) (q : ∀ H', Same H H' → Q z H') : WT X e σ H Q := wt_of h ⟨he.env (Same.refl H), q⟩
theorem wa_ea {ρ : Rho} {ds : List K74.D} {Q : List V → Hp → Prop} (h : EA X es H ρ ds) (he : EL X.K H ρ σ) (q : ∀ vs H', Same H H' → DatAll X.K H' vs ds → Q vs H') : WA X es σ H Q := wa_of h ⟨he.env (Same.refl H), q⟩
theorem we_en {ρ : Rho} {ds : List K74.D} (h : EN X e H ρ ds) (he : EL X.K H ρ σ) (q : ∀ l ws H', H l = none → Same H H' → H' l = some (.lst ws) → DatAll X.K H' ws ds → Q (.ref l) H') : WE X e σ H Q := we_of h ⟨he.env (Same.refl H), q⟩
theorem wi_si {ρ : Rho} {ds : List K74.D} {R : It → Hp → Prop} (h : SI X tg e H ρ ds) (he : EL X.K H ρ σ) (q : ∀ J H1, Same H H1 → JOk X.K J H1 ds → R J H1) : WI X tg e σ H R := by
  obtain ⟨wi, h1, h2⟩ := h.ex
  exact wi_of h1 (h2 σ H R (he.env (Same.refl H)) q)
theorem wss_bs {ρ : Rho} {o : Out} (h : BS X rest H ρ o) (he : EL X.K H ρ σ) (q : OutK X.K H o Dn H) : WS X rest Dn σ H := wss_of h ⟨he.env (Same.refl H), q⟩

/-! ### blocks -/
theorem ws_nil (h : Dn.nx σ H) : WS X [] Dn σ H := wss_of pss_nil h
theorem ws_cons {t : TS} (h : PS X st t) (q : t { Dn with nx := WS X rest Dn } σ H) : WS X (st :: rest) Dn σ H := wss_of (pss_cons h pss_w) q
theorem ws_ret (h : WE X e σ H Dn.rt) : WS X (.Return (some e) pos :: rest) Dn σ H := ws_cons (ps_ret pe_w) h
/-- x = e -/
theorem ws_set (i : Nat) (oo : Ok X k) (h : WE X e σ H fun v H1 => WS X rest Dn (σ.set i (some v)) H1) (hi : X.N[i]? = some x := by rfl) (hx : Loc X.env.scope x := by first | exact Or.inl rfl | exact Or.inr rfl) (hs : swapsWith e (some (.Name x p')) pos.line X.env = pure false := by rfl)
    (hf : X.fn x = true ∨ X.env.scope.names.lookup x = some .local := by first | exact .inl rfl | exact .inr rfl) : WS X (.Assign [.Name x p'] e pos :: rest) Dn σ H := ws_cons (ps_set oo.nd hi hx pe_w hs hf) h
theorem ws_expr (h : WE X e σ H fun _ H1 => WS X rest Dn σ H1) (hs : swapsWith e none pos.line X.env = pure false := by rfl) : WS X (.Expr e pos :: rest) Dn σ H := ws_cons (ps_expr pe_w hs) h
theorem ws_if (h : WT X c σ H fun z H1 => if z = true then WS X body { Dn with nx := WS X rest Dn } σ H1 else WS X orelse { Dn with nx := WS X rest Dn } σ H1) : WS X (.If c body orelse pos :: rest) Dn σ H := ws_cons (ps_if pt_w pss_w pss_w) h
theorem ws_ifE {ρ : Rho} {z : Bool} (h : ET X c H ρ z) (he : EL X.K H ρ σ) (h1 : z = true → ∀ H1, Same H H1 → WS X body { Dn with nx := WS X rest Dn } σ H1) (h0 : z = false → ∀ H1, Same H H1 → WS X orelse { Dn with nx := WS X rest Dn } σ H1) : WS X (.If c body orelse pos :: rest) Dn σ H :=
  ws_if (wt_et h he fun H1 s1 => by
    cases z with
    | true => exact iteT (h1 rfl H1 s1)
    | false => exact iteF (h0 rfl H1 s1))
/-- if without else, the body comes behind in one word -/
theorem ws_asg {tg : Expr} (h : WE X e σ H fun v H1 => WG X tg v σ H1 (WS X rest Dn)) (hs : swapsWithSole [tg] e pos.line X.env = pure false := by rfl) (hw : swappedStores [tg] e X.env = pure none := by rfl)
    (h1 : (assignEach [tg] X.env).map (·.2) = [assign tg X.env] := by rfl) : WS X (.Assign [tg] e pos :: rest) Dn σ H := ws_cons (ps_asg pe_w pg_w hs hw h1) h
/-- while: Pv the word, μ the measure -/
theorem ws_while {c : Expr} (hp : PassesOwn (model X.prog X.w) X.A X.env X.xe) (Pv : L2.St → Hp → Prop) (μ : L2.St → Hp → Nat) (h0 : Pv σ H)
    (hs : ∀ σ H, Pv σ H → WT X c σ H fun z H1 => if z = true then WS X body { Dn with nx := fun σ' H' => Pv σ' H' ∧ μ σ' H' < μ σ H, ct := fun σ' H' => Pv σ' H' ∧ μ σ' H' < μ σ H, bk := WS X rest Dn } σ H1 else WS X rest Dn σ H1) : WS X (.While c body [] pos :: rest) Dn σ H :=
  ws_cons (ps_while hp pt_w pss_w) (while_by (c := WT X c) Pv μ h0 hs fun σ H Q Q' q h => WT.mono h q)
theorem ws_forL {iter : Expr} (oo : Ok X k) (hp : PassesOwn (model X.prog X.w) X.A X.env X.xe) (h : WE X iter σ H fun v H1 => ∃ (l : Addr) (xs : List V) (Pv : Nat → L2.St → Hp → Prop), v = .ref l ∧ Pv 0 σ H1 ∧ (∀ i σ H, i ≤ xs.length → Pv i σ H → SqL X.K H l xs) ∧
      (∀ i x σ H, xs[i]? = some x → Pv i σ H → WG X tg x σ H fun σ2 H2 => WS X body { Dn with nx := Pv (i + 1), ct := Pv (i + 1), bk := WS X rest Dn } σ2 H2) ∧ ∀ σ H, Pv xs.length σ H → WS X rest Dn σ H)
    (hs : ∀ x, foldedSetIterable iter X.env x = pure x := by intro _; rfl) : WS X (.For tg iter body [] pos :: rest) Dn σ H :=
  ws_cons (ps_for hp oo.calm (pi_list pe_w) pg_w pss_w hs) (WE.mono h fun v H1 ⟨l, xs, Pv, e, h0, hl, hb, hd⟩ => ⟨l, e, ⟨xs, hl 0 σ H1 (Nat.zero_le _) h0⟩, for_list (tb := WS X body) (g := WG X tg) (D := { Dn with nx := WS X rest Dn }) Pv h0 hl hb hd⟩)
theorem ws_forT {iter : Expr} (oo : Ok X k) (hp : PassesOwn (model X.prog X.w) X.A X.env X.xe) (h : WE X iter σ H fun v H1 => ∃ (l : Addr) (xs : List V) (Pv : Nat → L2.St → Hp → Prop), v = .ref l ∧ Pv 0 σ H1 ∧ (∀ i σ H, i ≤ xs.length → Pv i σ H → SqT X.K H l xs) ∧
      (∀ i x σ H, xs[i]? = some x → Pv i σ H → WG X tg x σ H fun σ2 H2 => WS X body { Dn with nx := Pv (i + 1), ct := Pv (i + 1), bk := WS X rest Dn } σ2 H2) ∧ ∀ σ H, Pv xs.length σ H → WS X rest Dn σ H)
    (hs : ∀ x, foldedSetIterable iter X.env x = pure x := by intro _; rfl) : WS X (.For tg iter body [] pos :: rest) Dn σ H :=
  ws_cons (ps_for hp oo.calm (pi_tup pe_w) pg_w pss_w hs) (WE.mono h fun v H1 ⟨l, xs, Pv, e, h0, hl, hb, hd⟩ => ⟨l, e, ⟨xs, hl 0 σ H1 (Nat.zero_le _) h0⟩, for_tup (tb := WS X body) (g := WG X tg) (D := { Dn with nx := WS X rest Dn }) Pv h0 hl hb hd⟩)
/-- for x in range(n) -/
theorem ws_forR {a : Expr} (oo : Ok X k) (hp : PassesOwn (model X.prog X.w) X.A X.env X.xe) (hm : X.mg "range" = none) (h : WE X a σ H fun v H1 => ∃ (n : Nat) (Pv : Nat → L2.St → Hp → Prop), v = .int (n : Int) ∧ n ≤ 1000000 ∧ Pv 0 σ H1 ∧
      (∀ i σ H, i < n → Pv i σ H → WG X tg (.int (i : Nat)) σ H fun σ2 H2 => WS X body { Dn with nx := Pv (i + 1), ct := Pv (i + 1), bk := WS X rest Dn } σ2 H2) ∧ ∀ σ H, Pv n σ H → WS X rest Dn σ H)
    (hg : Gl X "range" := by rfl) (hs' : starEach [a] X.env = [(false, eval a X.env)] := by rfl)
    (hs : ∀ x, foldedSetIterable (.Call (.Name "range" p) [a] [] p1) X.env x = pure x := by intro _; rfl) : WS X (.For tg (.Call (.Name "range" p) [a] [] p1) body [] pos :: rest) Dn σ H :=
  ws_cons (ps_for hp oo.calm (pi_range1 hg hm (pa_cons pe_w pa_nil hs') hs') pg_w pss_w hs) (WE.mono h fun v H1 ⟨n, Pv, e, hn, h0, hb, hd⟩ => by
    subst e
    refine ⟨(n : Int), rfl, by omega, by omega, ?_⟩
    have := for_range (tb := WS X body) (g := WG X tg) (D := { Dn with nx := WS X rest Dn }) (lo := 0) (n := n) Pv h0 (fun i σ H hi p => by
      rw [Int.zero_add]
      exact hb i σ H hi p) hd
    exact this)
/-! ### targets -/
theorem wg_name (i : Nat) (oo : Ok X k) {v : V} {Q : L2.St → Hp → Prop} (q : Q (σ.set i (some v)) H) (hi : X.N[i]? = some x := by rfl) (hx : Loc X.env.scope x := by first | exact Or.inl rfl | exact Or.inr rfl) (hf : X.fn x = true ∨ X.env.scope.names.lookup x = some .local := by first | exact .inl rfl | exact .inr rfl) : WG X (.Name x pos) v σ H Q :=
  wg_of (pg_name oo.nd hi hx hf) q
theorem wg_two (i j : Nat) (oo : Ok X k) {y : S} {l : Addr} {v w : V} {kt : Nat} {Q : L2.St → Hp → Prop} (hl : SqT X.K H l [v, w]) (q : Q ((σ.set i (some v)).set j (some w)) H) (hi : X.N[i]? = some x := by rfl) (hx : Loc X.env.scope x := by first | exact Or.inl rfl | exact Or.inr rfl) (hf : X.fn x = true ∨ X.env.scope.names.lookup x = some .local := by first | exact .inl rfl | exact .inr rfl)
    (hj : X.N[j]? = some y := by rfl) (hy : Loc X.env.scope y := by first | exact Or.inl rfl | exact Or.inr rfl) (hfy : X.fn y = true ∨ X.env.scope.names.lookup y = some .local := by first | exact .inl rfl | exact .inr rfl)
    (hs : (assignEach [.Name x p1, .Name y p2] X.env).map (·.2) = assign (.Name x p1) X.env :: (assignEach [.Name y p2] X.env).map (·.2) := by rfl) (hs2 : (assignEach [.Name y p2] X.env).map (·.2) = assign (.Name y p2) X.env :: (assignEach [] X.env).map (·.2) := by rfl)
    (hn : (assignEach [.Name x p1, .Name y p2] X.env).length = 2 := by rfl) (hst : (assignEach [.Name x p1, .Name y p2] X.env).findIdx? (·.1) = none := by rfl) : WG X (.Tuple [.Name x p1, .Name y p2] kt pos) (.ref l) σ H Q :=
  wg_of (pg_tup oo.calm (pgs_cons (pg_name oo.nd hi hx hf) (pgs_cons (pg_name oo.nd hj hy hfy) pgs_nil hs2) hs) hn hst) ⟨l, _, rfl, hl, rfl, v, [w], rfl, w, [], rfl, rfl, q⟩
end
end K74

set_option Elab.async false
set_option linter.all false
set_option maxRecDepth 100000
set_option maxHeartbeats 4000000
/-! K74.KW2: defs, calls, comprehensions, writes, from one state to the next. -/
namespace K74
open PySem PySem.Spec PyProof.Rows L2

/-- a promise without an exception -/
def spG (R : List V → Hp → VK → Prop) : Sp := fun vs H Q _ => R vs H Q
section
variable {P : Program} {w : World} {K : PySem.W.Frag} {mg : Str → Option Value} {base : Heap} {x qual : S} {st : Stmt} {f : Addr} {fd : FuncData} {N ps : List S} {k : Nat}
theorem fn_W {R : List V → Hp → VK → Prop} (F : Fun K x qual st f fd) (S : FnScope N ps (defScope st)) (hlen : ∀ vs H Q, R vs H Q → vs.length = ps.length)
    (hbody : ∀ (cdv : Value) (A : Around) (outer : List Env) (s : Shared) (H : Hp) (E : XK) (vs : List V) (Q : VK), Ok (cxOf CX0 P w K mg base N qual (defScope st) f cdv A outer s H E).nox k → R vs H Q →
      WS (cxOf CX0 P w K mg base N qual (defScope st) f cdv A outer s H E).nox (defBody st) { nx := fun _ H' => Q .non H', rt := Q } (L2.start N vs) H) : FnOk P w K mg base CX0 (k + 1) f fd ps (spG R) :=
  F.ok S (fun vs H Q E h => hlen vs H Q h) fun cdv A outer s H vs Q E hr h => ⟨_, pss_w, hbody cdv A outer s H E vs Q (ok_cx S hr) h⟩
/-- the first slots by the data layer's promise -/
theorem fn_WP {R : Hp → List D → D → Prop} (F : Fun K x qual st f fd) (S : FnScope N ps (defScope st)) (hlen : ∀ H ds d, R H ds d → ds.length = ps.length)
    (hbody : ∀ (cdv : Value) (A : Around) (outer : List Env) (s : Shared) (H : Hp) (E : XK) (vs : List V) (ds : List D) (d : D) (Q : VK), Ok (cxOf CX0 P w K mg base N qual (defScope st) f cdv A outer s H E).nox k → R H ds d → DatAll K H vs ds →
      (∀ v H', Same H H' → Dat K H' v d → Q v H') → WS (cxOf CX0 P w K mg base N qual (defScope st) f cdv A outer s H E).nox (defBody st) { nx := fun _ H' => Q .non H', rt := Q } (L2.start N vs) H) : FnOk P w K mg base CX0 (k + 1) f fd ps (spP K R) :=
  F.ok S (fun vs H Q E ⟨ds, d, h1, h2, _⟩ => h2.length.trans (hlen H ds d h1)) fun cdv A outer s H vs Q E hr ⟨ds, d, h1, h2, q⟩ => ⟨_, pss_w, hbody cdv A outer s H E vs ds d Q (ok_cx S hr) h1 h2 q⟩
theorem fn_WN {R : Hp → List D → List D → Prop} (F : Fun K x qual st f fd) (S : FnScope N ps (defScope st)) (hlen : ∀ H ds d, R H ds d → ds.length = ps.length)
    (hbody : ∀ (cdv : Value) (A : Around) (outer : List Env) (s : Shared) (H : Hp) (E : XK) (vs : List V) (ds es : List D) (Q : VK), Ok (cxOf CX0 P w K mg base N qual (defScope st) f cdv A outer s H E).nox k → R H ds es → DatAll K H vs ds →
      (∀ l ws H', H l = none → Same H H' → H' l = some (.lst ws) → DatAll K H' ws es → Q (.ref l) H') → WS (cxOf CX0 P w K mg base N qual (defScope st) f cdv A outer s H E).nox (defBody st) { nx := fun _ H' => Q .non H', rt := Q } (L2.start N vs) H) : FnOk P w K mg base CX0 (k + 1) f fd ps (spN K R) :=
  F.ok S (fun vs H Q E ⟨ds, d, h1, h2, _⟩ => h2.length.trans (hlen H ds d h1)) fun cdv A outer s H vs Q E hr ⟨ds, d, h1, h2, q⟩ => ⟨_, pss_w, hbody cdv A outer s H E vs ds d Q (ok_cx S hr) h1 h2 q⟩
end

section
variable {X : Cx} {e ob a b c elt tg iter : Expr} {es ifs : List Expr} {st : Stmt} {rest body orelse : List Stmt} {σ : L2.St} {H B : Hp} {Q : VK} {pos p p' p1 p2 apos cpos : Pos} {Dn : Ends} {k j : Nat} {x m : S} {scope : Scope}
/-! ### arguments -/
theorem wa_nil {Q : List V → Hp → Prop} (h : Q [] H) : WA X [] σ H Q := wa_of pa_nil h
theorem wa_cons {Q : List V → Hp → Prop} (h : WE X e σ H fun v H1 => WA X es σ H1 fun vs H2 => Q (v :: vs) H2) (hs : starEach (e :: es) X.env = (false, eval e X.env) :: starEach es X.env := by rfl) : WA X (e :: es) σ H Q := wa_of (pa_cons pe_w pa_w hs) h
theorem WA.mono {Q Q' : List V → Hp → Prop} (h : WA X es σ H Q) (q : ∀ v H', Q v H' → Q' v H') : WA X es σ H Q' := ⟨fun pos pins s I => thn (h.run pos pins s I) fun u s' ⟨v, H', I', r, z⟩ => ⟨v, H', I', r, q v H' z⟩⟩
theorem we_var (i : Nat) {v : V} {x : S} (hσ : σ[i]? = some (some v)) (q : Q v H) (hN : X.N[i]? = some x := by rfl) (hv : Vis X.env.scope x := by first | exact Or.inl rfl | exact Or.inr (Or.inl rfl) | exact Or.inr (Or.inr rfl)) (hd : (x == ("__debug__" : Str)) = false := by decide)
    (hcd : (x == ("__classdict__" : Str)) = false := by decide) : WE X (.Name x pos) σ H Q := we_of (pe_var hN hv hd hcd) ⟨v, hσ, q⟩
/-! ### calls -/
theorem we_cal {R : List V → Hp → VK → Prop} (c : Cal X.prog X.w X.K X.mg X.base k x (spG R)) (o : Ok X j) (hk : k ≤ j) (ha : WA X (e :: es) σ H fun vs H1 => R vs H1 Q) (hg : Gl X x := by rfl) (hdb : (x == ("__debug__" : Str)) = false := by decide)
    (he : starEach (e :: es) X.env = (false, eval e X.env) :: starEach es X.env := by rfl) (hpl : (backTo pos (starEach es X.env)).any (·.1) = false := by rfl) : WE X (.Call (.Name x p) (e :: es) [] pos) σ H Q :=
  we_of (pe_cal c o hk pa_w hg hdb he hpl) (ha.mono fun vs H1 q => by
    show R (vs ++ []) H1 Q
    rw [List.append_nil]
    exact q)
theorem we_met {C : Addr} {pl : Sem Bool} {R : List V → Hp → VK → Prop} (c : Met X.prog X.w X.K X.mg X.base k C m (spG R)) (o : Ok X j) (hk : k ≤ j) (ho : WE X ob σ H fun v H1 => ∃ l, v = .ref l ∧ InsAt H1 C l m ∧ WA X (e :: es) σ H1 fun vs H2 => R (.ref l :: vs) H2 Q)
    (hst : starEach (e :: es) X.env = (false, eval e X.env) :: starEach es X.env := by rfl) (hpl : (backTo pos (starEach es X.env)).any (·.1) = false := by rfl)
    (ht : eval (.Call (.Attribute ob m apos) (e :: es) [] pos) X.env = (do
      let ov ← eval ob X.env
      standAt apos.atName
      let (f, first) ← holding [ov] (getMethod ov m pl)
      callWith pos f first (backTo pos (starEach (e :: es) X.env)) (backToKw pos (keywordEach [] X.env))) := by rfl) : WE X (.Call (.Attribute ob m apos) (e :: es) [] pos) σ H Q :=
  we_of (pe_met (pl := pl) c o hk pe_w pa_w hst hpl ht) (ho.mono fun v H1 ⟨l, e, ⟨dx, fs, h1, h2⟩, ha⟩ => ⟨l, dx, fs, e, h1, h2, ha.mono fun vs H2 q => by
    subst e
    show R (.ref l :: (vs ++ [])) H2 Q
    rw [List.append_nil]
    exact q⟩)
theorem we_met0 {C : Addr} {pl : Sem Bool} {R : List V → Hp → VK → Prop} (c : Met X.prog X.w X.K X.mg X.base k C m (spG R)) (o : Ok X j) (hk : k ≤ j) (ho : WE X ob σ H fun v H1 => ∃ l, v = .ref l ∧ InsAt H1 C l m ∧ R [.ref l] H1 Q)
    (ht : eval (.Call (.Attribute ob m apos) [] [] pos) X.env = (do
      let ov ← eval ob X.env
      standAt apos.atName
      let (f, first) ← holding [ov] (getMethod ov m pl)
      callWith pos f first (backTo pos (starEach [] X.env)) (backToKw pos (keywordEach [] X.env))) := by rfl) : WE X (.Call (.Attribute ob m apos) [] [] pos) σ H Q :=
  we_of (pe_met0 (pl := pl) c o hk pe_w ht) (ho.mono fun v H1 ⟨l, e, ⟨dx, fs, h1, h2⟩, ha⟩ => ⟨l, dx, fs, e, h1, h2, by
    subst e
    exact ha⟩)
/-- o.f -/
theorem we_fld {f : S} (ho : WE X ob σ H fun v H1 => ∃ (l C dx : Addr) (fs : List (S × V)) (u : V), v = .ref l ∧ H1 l = some (.ins C dx fs) ∧ Cls X.K C ∧ NoAttr X.K C f ∧ fs.lookup f = some u ∧ Q u H1) (hb : attributeBase ob f X.env (eval ob X.env) = eval ob X.env := by rfl) :
    WE X (.Attribute ob f pos) σ H Q := we_of (pe_fld pe_w hb) ho
/-- o.f = e -/
theorem ws_fld {f : S} (h : WE X e σ H fun y H1 => WE X ob σ H1 fun v H2 => ∃ (l C dx : Addr) (fs : List (S × V)), v = .ref l ∧ H2 l = some (.ins C dx fs) ∧ Cls X.K C ∧ NoAttr X.K C f ∧ fs.length < 1000 ∧ WS X rest Dn σ (upd H2 l (.ins C dx (putF f y fs))))
    (hs : swapsWith e (some (.Attribute ob f p')) pos.line X.env = pure false := by rfl) : WS X (.Assign [.Attribute ob f p'] e pos :: rest) Dn σ H := ws_cons (ps_fld pe_w pe_w hs) h

/-! ### lists written -/
/-- xs.append(e), xs a local -/
theorem ws_append (h : WE X ob σ H fun v H1 => ∃ l, v = .ref l ∧ (∃ xs, H1 l = some (.lst xs)) ∧ WE X e σ H1 fun y H2 => ∃ xs, H2 l = some (.lst xs) ∧ xs.length < sizeLine ∧ WS X rest Dn σ (upd H2 l (.lst (xs ++ [y]))))
    (hbase : attributeBase ob "append" X.env (eval ob X.env) = eval ob X.env := by rfl)
    (hfew : ((backTo cpos (starEach (e :: []) X.env)).all (fun x => !x.1) && (backToKw cpos (keywordEach [] X.env)).all (fun x => x.1.isSome)
      && decide ((e :: ([] : List Expr)).length + ([] : List Keyword).length + (if ([] : List Keyword).isEmpty then 0 else 1) < 30)) = true := by rfl)
    (hline : (apos.endLine == cpos.line) = true := by rfl) (hst : starEach (e :: []) X.env = (false, eval e X.env) :: starEach [] X.env := by rfl) (hplain : (backTo cpos (starEach [] X.env)).any (·.1) = false := by rfl)
    (hs : swapsWith (.Call (.Attribute ob "append" apos) [e] [] cpos) none pos.line X.env = pure false := by rfl) : WS X (.Expr (.Call (.Attribute ob "append" apos) [e] [] cpos) pos :: rest) Dn σ H :=
  ws_cons (ps_expr (pe_bm PySem.F.plainAttrs_list PySem.F.slot_list_append PySem.F.type_list_append mt_append pe_w (pa_cons pe_w pa_nil hst) hbase hfew hline hst hplain) hs)
    (h.mono fun v H1 ⟨l, ev, ⟨ys, hy⟩, hh⟩ => ⟨by
      subst ev
      exact .inl ⟨rfl, ys, SqL.of hy⟩, hh.mono fun y H2 ⟨xs, h1, h2, h3⟩ => ⟨l, xs, y, ev, rfl, h1, h2, h3⟩⟩)
/-- xs.extend(e) -/
theorem ws_extend (h : WE X ob σ H fun v H1 => ∃ l, v = .ref l ∧ (∃ xs, H1 l = some (.lst xs)) ∧ WE X e σ H1 fun y H2 => ∃ (l2 : Addr) (xs zs : List V), y = .ref l2 ∧ H2 l = some (.lst xs) ∧ H2 l2 = some (.lst zs) ∧ xs.length + zs.length ≤ sizeLine ∧ WS X rest Dn σ (upd H2 l (.lst (xs ++ zs))))
    (hbase : attributeBase ob "extend" X.env (eval ob X.env) = eval ob X.env := by rfl)
    (hfew : ((backTo cpos (starEach (e :: []) X.env)).all (fun x => !x.1) && (backToKw cpos (keywordEach [] X.env)).all (fun x => x.1.isSome)
      && decide ((e :: ([] : List Expr)).length + ([] : List Keyword).length + (if ([] : List Keyword).isEmpty then 0 else 1) < 30)) = true := by rfl)
    (hline : (apos.endLine == cpos.line) = true := by rfl) (hst : starEach (e :: []) X.env = (false, eval e X.env) :: starEach [] X.env := by rfl) (hplain : (backTo cpos (starEach [] X.env)).any (·.1) = false := by rfl)
    (hs : swapsWith (.Call (.Attribute ob "extend" apos) [e] [] cpos) none pos.line X.env = pure false := by rfl) : WS X (.Expr (.Call (.Attribute ob "extend" apos) [e] [] cpos) pos :: rest) Dn σ H :=
  ws_cons (ps_expr (pe_bm PySem.F.plainAttrs_list PySem.F.slot_list_extend PySem.F.type_list_extend mt_extend pe_w (pa_cons pe_w pa_nil hst) hbase hfew hline hst hplain) hs)
    (h.mono fun v H1 ⟨l, ev, ⟨ys, hy⟩, hh⟩ => ⟨by
      subst ev
      exact .inl ⟨rfl, ys, SqL.of hy⟩, hh.mono fun y H2 ⟨l2, xs, zs, e2, h1, h2, h3, h4⟩ => ⟨l, l2, xs, zs, ev, by rw [e2], h1, h2, h3, h4⟩⟩)
/-! ### comprehensions -/
abbrev Blk (X : Cx) (scope : Scope) (R : Cx → Prop) : Prop := ∀ (s : Shared) (H : Hp) (C : Addr) (cl : List (S × Addr)) (fp : List Addr), R (X.blk s H scope (compEnvC scope cl C X.env) fp)
/-- a clause's tests -/
structure WTs (X : Cx) (ifs : List Expr) (σ : L2.St) (H : Hp) (Q : Bool → Hp → Prop) : Prop where
  run : ∀ (pins : List (Addr × Obj)) (s : Shared), Inv X pins σ H s →
    wpAny (model X.prog X.w) X.A (forIn ifs true fun c r => if r = true then do let ok ← isTrue c X.env (eval c X.env); pure (ForInStep.yield ok) else pure (ForInStep.yield r)) (TP X pins σ Q) X.xe s
theorem wts_nil {Q : Bool → Hp → Prop} (h : Q true H) : WTs X [] σ H Q := ⟨fun pins s I => pts_nil.run pins s σ H Q I h⟩
theorem wts_one {Q : Bool → Hp → Prop} (h : WT X c σ H Q) : WTs X [c] σ H Q := ⟨fun pins s I => (pts_one pt_w).run pins s σ H Q I h⟩
abbrev gB (X : Cx) (scope : Scope) (tg : Expr) : TG := fun v σ H Q => Blk X scope fun Y => WG Y tg v σ H Q
abbrev tB' (X : Cx) (scope : Scope) (ifs : List Expr) : TT := fun σ H Q => Blk X scope fun Y => WTs Y ifs σ H Q
abbrev eB (X : Cx) (scope : Scope) (elt : Expr) : TE := fun σ H Q => Blk X scope fun Y => WE Y elt σ H Q
theorem pe_lcW (own : List (S × Nat)) (oo : Ok X k) (ok : BlkOk X.N X.env.scope scope own) (hs : ∀ x, foldedSetIterable iter X.env x = pure x) {wi : TI} (hi : PI X tg iter wi) :
    PE X (.ListComp elt [⟨tg, iter, ifs, 0⟩] scope pos) (tLc wi (gB X scope tg) (tB' X scope ifs) (eB X scope elt) (own.map (·.2))) :=
  pe_lc oo.calm oo.nd hi ok (fun s H C cl fp => ⟨fun pins s1 σ1 H1 v u Q I r h => (h s H C cl fp).run pins s1 u I r⟩) (fun s H C cl fp => ⟨fun pins s1 σ1 H1 Q I h => (h s H C cl fp).run pins s1 I⟩) (fun s H C cl fp => ⟨fun pins s1 σ1 H1 Q I h => (h s H C cl fp).run pins s1 I⟩) hs
/-- one turn -/
abbrev Turn1 (X : Cx) (scope : Scope) (elt tg : Expr) (ifs : List Expr) (vs : List Nat) (σ : L2.St) (l : Addr) (x : V) (H : Hp) (Nx : Hp → Prop) : Prop :=
  gB X scope tg x (wipe σ vs) H fun σ2 H2 => wipe σ2 vs = wipe σ vs ∧ tB' X scope ifs σ2 H2 fun b H3 => if b = true then eB X scope elt σ2 H3 fun y H4 => ∃ acc, H4 l = some (.lst acc) ∧ acc.length < sizeLine ∧ Nx (upd H4 l (.lst (acc ++ [y]))) else Nx H3
/-- [elt for tg in iter if ..], iter a tuple that stands -/
theorem we_lcT (own : List (S × Nat)) (oo : Ok X k) (ok : BlkOk X.N X.env.scope scope own) (h : WE X iter σ H fun v H1 => ∃ (q : Addr) (xs : List V), v = .ref q ∧ SqT X.K H1 q xs ∧ ∀ l, H1 l = none → ∃ Pv : Nat → Hp → Prop, Pv 0 (upd H1 l (.lst [])) ∧ (∀ i H, i ≤ xs.length → Pv i H → SqT X.K H q xs) ∧
      (∀ i x H, xs[i]? = some x → Pv i H → Turn1 X scope elt tg ifs (own.map (·.2)) σ l x H (Pv (i + 1))) ∧ ∀ H, Pv xs.length H → Q (.ref l) H) (hs : ∀ x, foldedSetIterable iter X.env x = pure x := by intro _; rfl) :
    WE X (.ListComp elt [⟨tg, iter, ifs, 0⟩] scope pos) σ H Q :=
  we_of (pe_lcW own oo ok hs (pi_tup pe_w)) (h.mono fun v H1 ⟨q, xs, e, hx, hh⟩ => ⟨q, e, ⟨xs, hx⟩, fun l hl => by
    obtain ⟨Pv, h0, h1, h2, h3⟩ := hh l hl
    exact lc_tup (Qd := Q (.ref l)) Pv h0 h1 h2 h3⟩)
theorem we_lcL (own : List (S × Nat)) (oo : Ok X k) (ok : BlkOk X.N X.env.scope scope own) (h : WE X iter σ H fun v H1 => ∃ (q : Addr) (xs : List V), v = .ref q ∧ SqL X.K H1 q xs ∧ ∀ l, H1 l = none → ∃ Pv : Nat → Hp → Prop, Pv 0 (upd H1 l (.lst [])) ∧ (∀ i H, i ≤ xs.length → Pv i H → SqL X.K H q xs) ∧
      (∀ i x H, xs[i]? = some x → Pv i H → Turn1 X scope elt tg ifs (own.map (·.2)) σ l x H (Pv (i + 1))) ∧ ∀ H, Pv xs.length H → Q (.ref l) H) (hs : ∀ x, foldedSetIterable iter X.env x = pure x := by intro _; rfl) :
    WE X (.ListComp elt [⟨tg, iter, ifs, 0⟩] scope pos) σ H Q :=
  we_of (pe_lcW own oo ok hs (pi_list pe_w)) (h.mono fun v H1 ⟨q, xs, e, hx, hh⟩ => ⟨q, e, ⟨xs, hx⟩, fun l hl => by
    obtain ⟨Pv, h0, h1, h2, h3⟩ := hh l hl
    exact lc_list (Qd := Q (.ref l)) Pv h0 h1 h2 h3⟩)
end
end K74

set_option Elab.async false
set_option linter.all false
set_option maxRecDepth 100000
set_option maxHeartbeats 4000000
/-! K74.KF0: the text by places, data of the program. -/
namespace K74
open PySem PySem.Spec PyProof.Rows L2

/-! ### data -/
def encPair (p : S × S) : D := .tup [.str p.1, .str p.2]
def encUse (u : UseD) : D := .tup [.str u.1, .str u.2.1, .bl u.2.2]
def encLib (l : LibD) : D := .tup [.str l.name, .tup (l.needs.map D.str), .tup (l.defs.map encPair), .tup (l.uses.map encUse)]
def encProg (P : ProgD) : D := .tup [.tup (P.libs.map encLib), .tup (P.pre.map D.str), .tup (P.doors.map encPair)]
def encAns (a : Ans) : D := .tup (a.map D.str)
def encOptS : Option S → D
  | some s => .str s
  | none => .non
def encWant (w : WantD) : D := .tup [.str w.who, .int (w.i : Int), encAns w.ans]
end K74

set_option Elab.async false
set_option linter.all false
set_option maxRecDepth 100000
set_option maxHeartbeats 4000000
/-! K74.KA0: more rules: isinstance, texts, int, abs, min; what the module holds. -/
namespace K74
open PySem PySem.Spec PyProof.Rows L2

/-- built-ins that no name of the module hides -/
structure Gb (mg : Str → Option Value) : Prop where
  len : mg "len" = none
  list : mg "list" = none
  tuple : mg "tuple" = none
  all : mg "all" = none
  any : mg "any" = none
  sum : mg "sum" = none
  sorted : mg "sorted" = none
  min : mg "min" = none
  range : mg "range" = none
  isinstance : mg "isinstance" = none
  str : mg "str" = none
  set : mg "set" = none
  enumerate : mg "enumerate" = none
  dict : mg "dict" = none
  abs : mg "abs" = none
  int : mg "int" = none
def sLetters : S := "abcdefghijklmnopqrstuvwxyz"
/-- the module's constants -/
structure Gk (mg : Str → Option Value) (K : PySem.W.Frag) : Prop where
  LETTERS : Gc mg K "LETTERS" (.str sLetters)
  MOST_LETTERS : Gc mg K "MOST_LETTERS" (.int 8)
  GLOBAL : Gc mg K "GLOBAL" (.str sGlobal)
  DEEP : Gc mg K "DEEP" (.str sDeep)
  OPEN : Gc mg K "OPEN" (.str ("open" : S))
  CLOSE : Gc mg K "CLOSE" (.str ("close" : S))
  CALL : Gc mg K "CALL" (.str ("call" : S))
  MOST : Gc mg K "MOST" (.int 2)
  OPENED : Gc mg K "OPENED" (encAns [("opened" : S)])
  CLOSED : Gc mg K "CLOSED" (encAns [("closed" : S)])
  FULL : Gc mg K "FULL" (encAns [("full" : S)])
  SHUT : Gc mg K "SHUT" (encAns [("shut" : S)])
  BOUND : Gc mg K "BOUND" (.str sBound)
  NOBODY : Gc mg K "NOBODY" (encAns [sNobody])
  LOST : Gc mg K "LOST" (encAns [sLost])
  TORN : Gc mg K "TORN" (encAns [("torn" : S)])

/-! ### isinstance -/
def D.tyN : D → Option String
  | .non => some "NoneType"
  | .bl _ => some "bool"
  | .int _ => some "int"
  | .str _ => some "str"
  | .lst _ => some "list"
  | .tup _ => some "tuple"
  | .raw _ => none
theorem tyX_of {K : PySem.W.Frag} {H : Hp} {v : V} {d : D} {n : String} (h : Dat K H v d) (e : d.tyN = some n) : TyX K H v (.type n) := by
  cases h with
  | non => cases e; exact .base .non
  | bl b => cases e; exact .base (.bl b)
  | int i => cases e; exact .base (.int i)
  | str x => cases e; exact .base (.str x)
  | lst h _ => cases e; exact .base (.lst h)
  | tup h _ =>
    cases e
    rcases h with (h | ⟨o, h⟩) | ⟨o, its, m, h1, h2, _⟩
    · exact .base (.tup h)
    · exact .fTuple h
    · exact .kTuple h1 h2
  | raw v => cases e
section
variable {X : Cx} {B : Hp} {ρ : Rho} {k : Nat} {e a b c tg : Expr} {es : List Expr} {pos p p1 p2 p3 : Pos} {d da db : D} {ds : List D} {x : S}
theorem pe_tyn {T : String} (hm : X.mg x = none) (hv : bootBuiltins x = some (.type T)) (hg : Gl X x := by rfl) (hn : x ≠ "__name__" := by decide) (hd : (x == ("__debug__" : Str)) = false := by decide) : PE X (.Name x pos) (tC (.ty T)) :=
  ⟨fun pins s σ H Q I h => ld_blt I hg hm hv ⟨.ty T, H, I, rfl, h⟩ hn hd⟩
/-- isinstance(a, T) -/
theorem ee_isi1 {T n : String} {z : Bool} (hm : X.mg "isinstance" = none) (hx : X.mg x = none) (ha : EE X a B ρ da) (hn : da.tyN = some n) (hk : kitB n T = some z) (hv : bootBuiltins x = some (.type T)) (hg : Gl X "isinstance" := by rfl) (hgx : Gl X x := by rfl)
    (hnx : x ≠ "__name__" := by decide) (hdx : (x == ("__debug__" : Str)) = false := by decide)
    (hs : starEach [a, .Name x p1] X.env = (false, eval a X.env) :: starEach [.Name x p1] X.env := by rfl) (hs2 : starEach [.Name x p1] X.env = (false, eval (.Name x p1) X.env) :: starEach [] X.env := by rfl) : EE X (.Call (.Name "isinstance" p) [a, .Name x p1] [] pos) B ρ (.bl z) :=
  PE.weak (pe_callB (L2.call_isi) hg hm (by decide +kernel) (pa_cons ha (pa_cons (pe_tyn hx hv hgx hnx hdx) pa_nil hs2) hs) (he := hs)) fun σ H Q q => ⟨q.1, fun v H1 s1 dv =>
    ⟨v, .ty T, .type n, .type T, z, rfl, .ty T, tyX_of dv hn, kit_ty hk, q.2 _ H1 s1 (.bl z)⟩⟩
/-- isinstance(a, (T1, T2)) -/
theorem ee_isi2 {T1 T2 n : String} {z1 z2 : Bool} {y : S} {j : Nat} (hm : X.mg "isinstance" = none) (hx : X.mg x = none) (hy : X.mg y = none) (ha : EE X a B ρ da) (hn : da.tyN = some n) (hk1 : kitB n T1 = some z1) (hk2 : kitB n T2 = some z2) (hv : bootBuiltins x = some (.type T1)) (hvy : bootBuiltins y = some (.type T2)) (hg : Gl X "isinstance" := by rfl) (hgx : Gl X x := by rfl) (hgy : Gl X y := by rfl)
    (hnx : x ≠ "__name__" := by decide) (hdx : (x == ("__debug__" : Str)) = false := by decide) (hny : y ≠ "__name__" := by decide) (hdy : (y == ("__debug__" : Str)) = false := by decide)
    (hs : starEach [a, .Tuple [.Name x p1, .Name y p2] j p3] X.env = (false, eval a X.env) :: starEach [.Tuple [.Name x p1, .Name y p2] j p3] X.env := by rfl) (hs2 : starEach [.Tuple [.Name x p1, .Name y p2] j p3] X.env = (false, eval (.Tuple [.Name x p1, .Name y p2] j p3) X.env) :: starEach [] X.env := by rfl)
    (hs3 : starEach [.Name x p1, .Name y p2] X.env = (false, eval (.Name x p1) X.env) :: starEach [.Name y p2] X.env := by rfl) (hs4 : starEach [.Name y p2] X.env = (false, eval (.Name y p2) X.env) :: starEach [] X.env := by rfl) : EE X (.Call (.Name "isinstance" p) [a, .Tuple [.Name x p1, .Name y p2] j p3] [] pos) B ρ (.bl (z1 || z2)) :=
  PE.weak (pe_callB (L2.call_isiT) hg hm (by decide +kernel) (pa_cons ha (pa_cons (pe_tup (pa_cons (pe_tyn hx hv hgx hnx hdx) (pa_cons (pe_tyn hy hvy hgy hny hdy) pa_nil hs4) hs3)) pa_nil hs2) hs) (he := hs)) fun σ H Q q => ⟨q.1, fun v H1 s1 dv =>
    ⟨by show 2 ≤ sizeLine; decide, fun l hl => ⟨v, l, _, .type n, [.type T1, .type T2], z1 || z2, rfl, upd_same, .cons (.ty T1) (.cons (.ty T2) .nil), (tyX_of (dv.mono (Same.new hl)) hn),
      kitAny_cons (kit_ty hk1) (fun e => kitAny_cons (r := z1 || z2) (kit_ty hk2) (fun e2 => by subst e e2; exact kitAny_nil) (fun e2 => by subst e e2; rfl)) (fun e => by subst e; rfl), q.2 _ _ (s1.trans (Same.new hl)) (.bl _)⟩⟩⟩

/-! ### texts -/
theorem ee_lenStr {z : S} (hm : X.mg "len" = none) (ha : EE X a B ρ (.str z)) (hz : z.length ≤ sizeLine) (hg : Gl X "len" := by rfl)
    (hs : starEach [a] X.env = (false, eval a X.env) :: starEach [] X.env := by rfl) : EE X (.Call (.Name "len" p) [a] [] pos) B ρ (.int (z.length : Nat)) :=
  PE.weak (pe_callB call_len_str hg hm PySem.boot_len (pa_cons ha pa_nil hs) (he := hs)) fun σ H Q q => ⟨q.1, fun v H1 s1 dv => by
    cases dv
    exact ⟨z, rfl, hz, q.2 _ H1 s1 (.int _)⟩⟩
theorem od_inText {i j : S} : OpD X (compareOp .In) B (.str i) (.str j) (.bl (!(Builtin.Str.occurrences j i 0 j.length 1).isEmpty)) := ⟨_, op_in_str, fun _ _ H Q _ dx dy q => by
  cases dx; cases dy
  exact ⟨i, j, rfl, rfl, q _ H (Same.refl H) (.bl _)⟩⟩
/-! ### numbers -/
theorem ee_int1 {i : Int} (hm : X.mg "int" = none) (ha : EE X a B ρ (.int i)) (hg : Gl X "int" := by rfl) (hs : starEach [a] X.env = (false, eval a X.env) :: starEach [] X.env := by rfl) : EE X (.Call (.Name "int" p) [a] [] pos) B ρ (.int i) :=
  PE.weak (pe_callTy call_int1 hg hm (by decide +kernel) (pa_cons ha pa_nil hs) (he := hs)) fun σ H Q q => ⟨q.1, fun v H1 s1 dv => by
    cases dv
    exact .inl ⟨i, rfl, q.2 _ H1 s1 (.int i)⟩⟩
theorem ee_intB {z : Bool} (hm : X.mg "int" = none) (ha : EE X a B ρ (.bl z)) (hg : Gl X "int" := by rfl) (hs : starEach [a] X.env = (false, eval a X.env) :: starEach [] X.env := by rfl) : EE X (.Call (.Name "int" p) [a] [] pos) B ρ (.int (if z then 1 else 0)) :=
  PE.weak (pe_callTy call_int1 hg hm (by decide +kernel) (pa_cons ha pa_nil hs) (he := hs)) fun σ H Q q => ⟨q.1, fun v H1 s1 dv => by
    cases dv
    exact .inr ⟨z, rfl, q.2 _ H1 s1 (.int _)⟩⟩
theorem ee_abs {i : Int} (hm : X.mg "abs" = none) (ha : EE X a B ρ (.int i)) (hg : Gl X "abs" := by rfl) (hs : starEach [a] X.env = (false, eval a X.env) :: starEach [] X.env := by rfl) : EE X (.Call (.Name "abs" p) [a] [] pos) B ρ (.int (if i < 0 then -i else i)) :=
  PE.weak (pe_callB call_abs hg hm (by decide +kernel) (pa_cons ha pa_nil hs) (he := hs)) fun σ H Q q => ⟨q.1, fun v H1 s1 dv => by
    cases dv
    exact ⟨i, rfl, q.2 _ H1 s1 (.int _)⟩⟩
theorem ee_min2 {i j : Int} (o : Ok X k) (hm : X.mg "min" = none) (ha : EE X a B ρ (.int i)) (hb : EE X b B ρ (.int j)) (hg : Gl X "min" := by rfl) (hs : starEach [a, b] X.env = (false, eval a X.env) :: starEach [b] X.env := by rfl) (hs2 : starEach [b] X.env = (false, eval b X.env) :: starEach [] X.env := by rfl) : EE X (.Call (.Name "min" p) [a, b] [] pos) B ρ (.int (if j < i then j else i)) :=
  PE.weak (pe_callB (call_min2 o.calm) hg hm (by decide +kernel) (pa_cons ha (pa_cons hb pa_nil hs2) hs) (he := hs) (hpl := by rw [hs2]; rfl)) fun σ H Q q => ⟨q.1, fun v H1 s1 dv => by
    cases dv
    exact ⟨q.1.mono s1, fun w H2 s2 dw => by
      cases dw
      exact ⟨i, j, rfl, q.2 _ H2 (s1.trans s2) (.int _)⟩⟩⟩
end
end K74

set_option Elab.async false
set_option linter.all false
set_option maxRecDepth 100000
set_option maxHeartbeats 4000000
/-! K74.KA2: serves, version_of, lib_of, lib_at, use_at, main_of, as_tuples. -/
namespace K74
open PySem PySem.Spec PyProof.Rows L2

/-- bounds of a program's sizes -/
structure SZ (P : ProgD) : Prop where
  libs : P.libs.length ≤ 8
  needs : ∀ l ∈ P.libs, l.needs.length ≤ 8
  defs : ∀ l ∈ P.libs, l.defs.length ≤ 8
  uses : ∀ l ∈ P.libs, l.uses.length ≤ 8
  doors : P.doors.length ≤ 8
  pre : P.pre.length ≤ 8
def encOptLib : Option LibD → D
  | some l => encLib l
  | none => .non
section
variable {X : Cx} {B : Hp} {ρ : Rho} {e : Expr} {d d' : D} {x y : Bool} {elt tg iter : Expr} {ifs : List Expr} {scope : Scope} {ds ds' : List D}
theorem ee_is (q : d = d') (h : EE X e B ρ d) : EE X e B ρ d' := q ▸ h
theorem et_is (q : x = y) (h : ET X e B ρ x) : ET X e B ρ y := q ▸ h
theorem lc_is (q : ds = ds') (h : LC X elt tg iter ifs scope B ρ ds) : LC X elt tg iter ifs scope B ρ ds' := q ▸ h
end
theorem sz8 {n : Nat} (h : n ≤ 8) : n < sizeLine := Nat.lt_of_le_of_lt h (by decide)
theorem isNon_optS {o : Option S} : isNonD (encOptS o) = o.isNone := by cases o <;> rfl
theorem isNon_optLib {o : Option LibD} : isNonD (encOptLib o) = o.isNone := by cases o <;> rfl

section
variable {P : Program} {w : World} {K : PySem.W.Frag} {mg : Str → Option Value} {base : Heap} {f : Addr} {fd : FuncData} {k : Nat}
abbrev s_serves : Stmt := top 24
theorem sc_serves : FnScope ["definition", "use"] ["definition", "use"] (defScope s_serves) := ⟨rfl, rfl, rfl, by decide +kernel, rfl, by decide +kernel, by decide +kernel⟩
def RServes : Hp → List D → D → Prop := fun _ ds d => ∃ (p : S × S) (u : UseD), ds = [encPair p, encUse u] ∧ d = .bl (servesM p u)
theorem ok_serves (F : Fun K "serves" "serves" s_serves f fd) : FnOk P w K mg base CX0 1 f fd ["definition", "use"] (spP K RServes) := by
  refine fn_P F sc_serves (fun H ds d h => ?_) (fun cdv A outer s H E ds d oo h => ?_)
  · obtain ⟨p, u, rfl, _⟩ := h
    rfl
  · obtain ⟨p, u, rfl, rfl⟩ := h
    refine bs_retIs (ee_and (ee_cmp od_eqS (ee_ix (ee_var 0 rfl) ee_int rfl) (ee_ix (ee_var 1 rfl) ee_int rfl)) (fun _ =>
      ee_or (ee_cmp od_eqS (ee_ix (ee_var 0 rfl) ee_int rfl) (ee_ix (ee_var 1 rfl) ee_int rfl)) (fun _ =>
        ee_cmp (od_inS (xs := [p.2, u.2.1]) oo) ee_str (ee_tup (ea_cons (ee_ix (ee_var 0 rfl) ee_int rfl) (ea_cons (ee_ix (ee_var 1 rfl) ee_int rfl) ea_nil)))))) ?_
    unfold servesM
    have hm : (("" : S) ∈ [p.2, u.2.1]) ↔ (p.2 = sE ∨ u.2.1 = sE) := by
      show sE ∈ [p.2, u.2.1] ↔ _
      simp [eq_comm]
    by_cases h1 : p.1 = u.1
    · by_cases h2 : p.2 = u.2.1
      · simp [h1, h2]
      · simp only [h1, h2, hm, decide_true, decide_false, if_true, Bool.true_and, Bool.false_or, Bool.decide_or]
        rfl
    · simp [h1]

abbrev s_version_of : Stmt := top 25
theorem sc_version_of : FnScope ["lib", "use", "some", "definition"] ["lib", "use"] (defScope s_version_of) := ⟨rfl, rfl, rfl, by decide +kernel, rfl, by decide +kernel, by decide +kernel⟩
def RVersion : Hp → List D → D → Prop := fun _ ds d => ∃ (l : LibD) (u : UseD), ds = [encLib l, encUse u] ∧ d = encOptS (versionM l u) ∧ l.defs.length ≤ 8
theorem ok_version_of (F : Fun K "version_of" "version_of" s_version_of f fd) (T : Gb mg) (c_serves : Cal P w K mg base 1 "serves" (spP K RServes)) : FnOk P w K mg base CX0 2 f fd ["lib", "use"] (spP K RVersion) := by
  refine fn_P F sc_version_of (fun H ds d h => ?_) (fun cdv A outer s H E ds d oo h => ?_)
  · obtain ⟨l, u, rfl, _⟩ := h
    rfl
  · obtain ⟨l, u, rfl, rfl, hl⟩ := h
    have hm : ((l.defs.filter fun d => servesM d u).map fun d => D.str d.2) = (someV l u).map D.str := by unfold someV; rw [List.map_map]; rfl
    refine bs_setLc 2 oo (lc_is hm (lc_mk (xs := l.defs) (enc := encPair) (p := fun d => servesM d u) (f := fun d => .str d.2) (ρ' := fun d => [some (encLib l), some (encUse u), none, some (encPair d)]) [("definition", 3)] (blkOk_by rfl) (si_tup (ee_ix (ee_var 0 rfl) ee_int rfl))
      (fun _ _ _ _ _ => pg_name (i := 3) oo.nd rfl (Or.inl rfl)) (fun x hx => tg_name) (fun _ _ _ _ _ x hx => ets_one (et_val (ee_call c_serves oo.blk (by decide) (ea_cons (ee_var 3 rfl) (ea_cons (ee_var 1 rfl) ea_nil)) (fun _ _ => ⟨x, u, rfl, rfl⟩))))
      (fun _ _ _ _ _ x hx hp => (ee_ix (ee_var 3 rfl) ee_int rfl)) (own1 rfl) (fun x hx => rfl) (sz8 hl))) ?_
    have hlen : (D.lst ((someV l u).map D.str)).len = some (someV l u).length := by simp [D.len]
    by_cases h0 : (someV l u).length = 0
    · refine bs_ifR (et_is (by simp [h0]) (et_cmp od_eqI (ee_len T.len (ee_var 2 rfl) hlen) ee_int)) (bs_retIs ee_non ?_)
      unfold versionM
      rw [if_pos h0]
      rfl
    · refine bs_ifF (et_is (decide_eq_false fun z => h0 (by omega)) (et_cmp od_eqI (ee_len T.len (ee_var 2 rfl) hlen) ee_int)) ?_
      refine bs_retIs (ee_if (et_cmp (od_inS oo (xs := someV l u)) (ee_ix (ee_var 1 rfl) ee_int rfl) (ee_var 2 rfl)) (fun h1 => (ee_ix (ee_var 1 rfl) ee_int rfl)) (fun h2 => (ee_minS oo T.min (ee_var 2 rfl) (fun z => h0 (by rw [z]; rfl))))) ?_
      unfold versionM
      rw [if_neg h0]
      by_cases h1 : u.2.1 ∈ someV l u
      · simp only [h1, decide_true, if_true]; rfl
      · simp only [h1, decide_false, if_false]; rfl

abbrev s_lib_of : Stmt := top 12
theorem sc_lib_of : FnScope ["program", "name", "some", "lib"] ["program", "name"] (defScope s_lib_of) := ⟨rfl, rfl, rfl, by decide +kernel, rfl, by decide +kernel, by decide +kernel⟩
def RLibOf : Hp → List D → D → Prop := fun _ ds d => ∃ (Q : ProgD) (n : S), ds = [encProg Q, .str n] ∧ d = encOptLib (libOf Q n) ∧ Q.libs.length ≤ 8
theorem ok_lib_of (F : Fun K "lib_of" "lib_of" s_lib_of f fd) (T : Gb mg) : FnOk P w K mg base CX0 1 f fd ["program", "name"] (spP K RLibOf) := by
  refine fn_P F sc_lib_of (fun H ds d h => ?_) (fun cdv A outer s H E ds d oo h => ?_)
  · obtain ⟨l, u, rfl, _⟩ := h
    rfl
  · obtain ⟨Q, n, rfl, rfl, hl⟩ := h
    refine bs_setLc 2 oo (lc_mk (xs := Q.libs) (enc := encLib) (p := fun l => decide (l.name = n)) (f := encLib) (ρ' := fun l => [some (encProg Q), some (.str n), none, some (encLib l)]) [("lib", 3)] (blkOk_by rfl) (si_tup (ee_ix (ee_var 0 rfl) ee_int rfl)) (fun _ _ _ _ _ => pg_name (i := 3) oo.nd rfl (Or.inl rfl)) (fun x hx => tg_name)
      (fun _ _ _ _ _ x hx => ets_one (et_cmp od_eqS (ee_ix (ee_var 3 rfl) ee_int rfl) (ee_var 1 rfl))) (fun _ _ _ _ _ x hx hp => (ee_var 3 rfl)) (own1 rfl) (fun x hx => by
        show imms [_, _, _, _] = true
        simp only [imms, D.imm, imms_strs, Bool.and_true, Bool.true_and]
        rw [imms_map fun x _ => rfl, imms_map fun x _ => rfl]
        rfl) (sz8 hl)) ?_
    have hlen : ∀ xs : List LibD, (D.lst (xs.map encLib)).len = some xs.length := fun xs => by simp [D.len]
    unfold libOf
    cases hq : Q.libs.filter fun l => decide (l.name = n) with
    | nil => exact bs_retIs (ee_if (et_cmp od_gt (ee_len T.len (ee_var 2 rfl) (hlen [])) ee_int) (d1 := .non) (fun h1 => by cases h1) (fun h2 => ee_non)) rfl
    | cons l r => exact bs_retIs (ee_if (et_is (y := true) (decide_eq_true (by simp only [List.length_cons]; omega)) (et_cmp od_gt (ee_len T.len (ee_var 2 rfl) (hlen (l :: r))) ee_int)) (d2 := .non) (fun h1 => (ee_ix (ee_var 2 rfl) ee_int (by
          show atI _ _ = _
          simp [atI, ixN] <;> rfl))) (fun h2 => by cases h2)) rfl

abbrev s_lib_at : Stmt := top 19
theorem sc_lib_at : FnScope ["program", "name", "lib"] ["program", "name"] (defScope s_lib_at) := ⟨rfl, rfl, rfl, by decide +kernel, rfl, by decide +kernel, by decide +kernel⟩
def RLibAt : Hp → List D → D → Prop := fun _ ds d => ∃ (Q : ProgD) (n : S) (l : LibD), ds = [encProg Q, .str n] ∧ d = encLib l ∧ libOf Q n = some l ∧ Q.libs.length ≤ 8
theorem ok_lib_at (F : Fun K "lib_at" "lib_at" s_lib_at f fd) (c_lib_of : Cal P w K mg base 1 "lib_of" (spP K RLibOf)) : FnOk P w K mg base CX0 2 f fd ["program", "name"] (spP K RLibAt) := by
  refine fn_P F sc_lib_at (fun H ds d h => ?_) (fun cdv A outer s H E ds d oo h => ?_)
  · obtain ⟨Q, n, l, rfl, _⟩ := h
    rfl
  · obtain ⟨Q, n, l, rfl, rfl, hq, hl⟩ := h
    refine bs_set 2 oo (ee_call c_lib_of oo (by decide) (ea_cons (ee_var 0 rfl) (ea_cons (ee_var 1 rfl) ea_nil)) (fun _ _ => ⟨Q, n, rfl, rfl, hl⟩)) ?_
    rw [hq]
    refine bs_ifF (et_cmp od_isN (ee_var 2 rfl) ee_non) ?_
    exact bs_ret (ee_var 2 rfl)

abbrev s_use_at : Stmt := top 20
theorem sc_use_at : FnScope ["program", "name", "number", "lib"] ["program", "name", "number"] (defScope s_use_at) := ⟨rfl, rfl, rfl, by decide +kernel, rfl, by decide +kernel, by decide +kernel⟩
def RUseAt : Hp → List D → D → Prop := fun _ ds d => ∃ (Q : ProgD) (n : S) (l : LibD) (i : Nat) (u : UseD), ds = [encProg Q, .str n, .int (i : Nat)] ∧ d = encUse u ∧ libOf Q n = some l ∧ l.uses[i]? = some u ∧ Q.libs.length ≤ 8
theorem atI_nat {α : Type} {xs : List α} {i : Nat} {x : α} (h : xs[i]? = some x) : atI xs (i : Int) = some x := by
  have hl := (List.getElem?_eq_some_iff.mp h).1
  unfold atI
  have : ixN xs.length (i : Int) = some i := by
    unfold ixN
    rw [if_pos (by omega), if_pos (by omega)]
    rfl
  rw [this]
  exact h
theorem ok_use_at (F : Fun K "use_at" "use_at" s_use_at f fd) (T : Gb mg) (c_lib_at : Cal P w K mg base 2 "lib_at" (spP K RLibAt)) : FnOk P w K mg base CX0 3 f fd ["program", "name", "number"] (spP K RUseAt) := by
  refine fn_P F sc_use_at (fun H ds d h => ?_) (fun cdv A outer s H E ds d oo h => ?_)
  · obtain ⟨Q, n, l, i, u, rfl, _⟩ := h
    rfl
  · obtain ⟨Q, n, l, i, u, rfl, rfl, hq, hu, hl⟩ := h
    have hi := (List.getElem?_eq_some_iff.mp hu).1
    refine bs_set 3 oo (ee_call c_lib_at oo (by decide) (ea_cons (ee_var 0 rfl) (ea_cons (ee_var 1 rfl) ea_nil)) (fun _ _ => ⟨Q, n, l, rfl, rfl, hq, hl⟩)) ?_
    have hlen : (D.tup (l.uses.map encUse)).len = some l.uses.length := by simp [D.len]
    refine bs_ifF (et_is (by
      rw [decide_eq_true (show (0 : Int) ≤ (i : Int) by omega), decide_eq_true (show (i : Int) < (l.uses.length : Int) by omega)]
      rfl) (et_not (et_chain op_le op_lt ee_int (ee_var 2 rfl) (ee_len T.len (ee_ix (ee_var 3 rfl) ee_int rfl) hlen)))) ?_
    exact bs_ret (ee_ix (ee_ix (ee_var 3 rfl) ee_int rfl) (ee_var 2 rfl) (atI_nat (by rw [List.getElem?_map, hu]; rfl)))

abbrev s_main_of : Stmt := top 45
theorem sc_main_of : FnScope ["program"] ["program"] (defScope s_main_of) := ⟨rfl, rfl, rfl, by decide +kernel, rfl, by decide +kernel, by decide +kernel⟩
def RMainOf : Hp → List D → D → Prop := fun _ ds d => ∃ (Q : ProgD), ds = [encProg Q] ∧ d = .str (mainOf Q) ∧ Q.libs ≠ []
theorem ok_main_of (F : Fun K "main_of" "main_of" s_main_of f fd) : FnOk P w K mg base CX0 1 f fd ["program"] (spP K RMainOf) := by
  refine fn_P F sc_main_of (fun H ds d h => ?_) (fun cdv A outer s H E ds d oo h => ?_)
  · obtain ⟨Q, rfl, _⟩ := h
    rfl
  · obtain ⟨Q, rfl, rfl, hq⟩ := h
    obtain ⟨libs, pre, doors⟩ := Q
    cases libs with
    | nil => exact absurd rfl hq
    | cons l r =>
      exact bs_ret (ee_ix (ee_ix (ee_ix (ee_var 0 rfl) ee_int rfl) ee_int (by show atI _ _ = _; simp [atI, ixN] <;> rfl)) ee_int rfl)

/-! ### as_tuples: of data without lists the same -/
def D.flatT : Nat → D → Bool
  | _, .non => true
  | _, .bl _ => true
  | _, .int _ => true
  | _, .str _ => true
  | n + 1, .tup xs => xs.all (D.flatT n) && decide (xs.length ≤ 64)
  | _, _ => false
def flatTs (n : Nat) (xs : List D) : Bool := xs.all (D.flatT n)
theorem flatT_imm : ∀ (n : Nat) (d : D), d.flatT n = true → d.imm = true
  | _, .non, _ => rfl
  | _, .bl _, _ => rfl
  | _, .int _, _ => rfl
  | _, .str _, _ => rfl
  | 0, .tup _, h => by cases h
  | 0, .lst _, h => by cases h
  | _ + 1, .lst _, h => by cases h
  | 0, .raw _, h => by cases h
  | _ + 1, .raw _, h => by cases h
  | n + 1, .tup xs, h => by
    have h1 : (xs.all (D.flatT n) && decide (xs.length ≤ 64)) = true := h
    rw [Bool.and_eq_true, List.all_eq_true] at h1
    have := imms_map (f := id) (xs := xs) fun x hx => flatT_imm n x (h1.1 x hx)
    rw [List.map_id] at this
    exact this
abbrev s_as_tuples : Stmt := top 9
theorem sc_as_tuples : FnScope ["thing", "part"] ["thing"] (defScope s_as_tuples) := ⟨rfl, rfl, rfl, by decide +kernel, rfl, by decide +kernel, by decide +kernel⟩
def RAs (n : Nat) : Hp → List D → D → Prop := fun _ ds d => ds = [d] ∧ d.flatT n = true
theorem ok_as_tuples {n k : Nat} (F : Fun K "as_tuples" "as_tuples" s_as_tuples f fd) (T : Gb mg) (c_as : ∀ m, n = m + 1 → Cal P w K mg base k "as_tuples" (spP K (RAs m))) : FnOk P w K mg base CX0 (k + 1) f fd ["thing"] (spP K (RAs n)) := by
  refine fn_P F sc_as_tuples (fun H ds d h => ?_) (fun cdv A outer s H E ds d oo h => ?_)
  · obtain ⟨rfl, _⟩ := h
    rfl
  · obtain ⟨rfl, h⟩ := h
    have atom : ∀ (d : D) (nm : String), d.tyN = some nm → kitB nm "list" = some false → kitB nm "tuple" = some false → BS (cxOf CX0 P w K mg base ["thing", "part"] "as_tuples" (defScope s_as_tuples) f cdv A outer s H E).nox (defBody s_as_tuples) H (startR ["thing", "part"] [d]) (.ret d) := fun d nm h1 h2 h3 =>
      bs_retIs (ee_if (et_val (ee_isi2 T.isinstance T.list T.tuple (ee_var 0 rfl) h1 h2 h3 (by decide +kernel) (by decide +kernel))) (d1 := .non) (fun h1 => by cases h1) (fun h2 => ee_var 0 rfl)) rfl
    cases d with
    | non => exact atom _ _ rfl (by decide +kernel) (by decide +kernel)
    | bl b => exact atom _ _ rfl (by decide +kernel) (by decide +kernel)
    | int i => exact atom _ _ rfl (by decide +kernel) (by decide +kernel)
    | str x => exact atom _ _ rfl (by decide +kernel) (by decide +kernel)
    | lst xs => cases n <;> cases h
    | raw v => cases n <;> cases h
    | tup xs =>
      cases n with
      | zero => cases h
      | succ n =>
        have h1 : (xs.all (D.flatT n) && decide (xs.length ≤ 64)) = true := h
        rw [Bool.and_eq_true, List.all_eq_true] at h1
        refine bs_retIs (ee_if (et_val (ee_isi2 T.isinstance T.list T.tuple (ee_var 0 rfl) rfl (T1 := "list") (T2 := "tuple") (z1 := false) (z2 := true) (by decide +kernel) (by decide +kernel) (by decide +kernel) (by decide +kernel))) (d2 := .non) (fun _ => ee_tuple T.tuple (ee_lc oo (lc_is (by rw [List.filter_eq_self.mpr (fun _ _ => rfl), List.map_id]) (lc_mk (xs := xs) (enc := id) (p := fun _ => true) (f := id) (ρ' := fun d => [some (.tup xs), some d]) [("part", 1)] (blkOk_by rfl) (si_tup (by rw [List.map_id]; exact ee_var 0 rfl))
          (fun _ _ _ _ _ => pg_name (i := 1) oo.nd rfl (Or.inl rfl)) (fun x hx => tg_name) (fun _ _ _ _ _ x hx => ets_nil)
          (fun _ _ _ _ _ x hx hp => ee_call (c_as n rfl) oo.blk (Nat.le_refl _) (ea_cons (ee_var 1 rfl) ea_nil) (fun _ _ => ⟨rfl, h1.1 x hx⟩)) (own1 rfl) (fun x hx => flatT_imm n x (h1.1 x hx)) (Nat.lt_of_le_of_lt (of_decide_eq_true h1.2) (by decide))))) (.inl rfl)) (fun h2 => by cases h2)) rfl
end
end K74

set_option Elab.async false
set_option linter.all false
set_option maxRecDepth 100000
set_option maxHeartbeats 4000000
/-! K74.KA3: row, first_row, door_row. -/
namespace K74
open PySem PySem.Spec PyProof.Rows L2

/-- encProg is flat, for a program of these sizes -/
theorem flat_strs' {n : Nat} {xs : List S} (h : xs.length ≤ 64) : (D.tup (xs.map D.str)).flatT (n + 1) = true := by
  show ((xs.map D.str).all (D.flatT n) && decide ((xs.map D.str).length ≤ 64)) = true
  rw [Bool.and_eq_true, List.all_eq_true]
  refine ⟨fun z hz => ?_, by simpa using h⟩
  obtain ⟨y, _, rfl⟩ := List.mem_map.mp hz
  cases n <;> rfl
theorem flat_tups {α : Type} {g : α → D} {n : Nat} {xs : List α} (h : xs.length ≤ 64) (hg : ∀ x ∈ xs, (g x).flatT n = true) : (D.tup (xs.map g)).flatT (n + 1) = true := by
  show ((xs.map g).all (D.flatT n) && decide ((xs.map g).length ≤ 64)) = true
  rw [Bool.and_eq_true, List.all_eq_true]
  refine ⟨fun z hz => ?_, by simpa using h⟩
  obtain ⟨y, hy, rfl⟩ := List.mem_map.mp hz
  exact hg y hy
theorem flat_prog {P : ProgD} (z : SZ P) : (encProg P).flatT 5 = true := by
  have h1 : (D.tup (P.libs.map encLib)).flatT 4 = true := flat_tups (by have := z.libs; omega) fun l hl => by
    have a1 : (D.tup (l.needs.map D.str)).flatT 2 = true := flat_strs' (by have := z.needs l hl; omega)
    have a2 : (D.tup (l.defs.map encPair)).flatT 2 = true := flat_tups (by have := z.defs l hl; omega) fun _ _ => rfl
    have a3 : (D.tup (l.uses.map encUse)).flatT 2 = true := flat_tups (by have := z.uses l hl; omega) fun _ _ => rfl
    show ([D.str l.name, _, _, _].all (D.flatT 2) && _) = true
    simp only [List.all_cons, List.all_nil, a1, a2, a3]
    rfl
  have h2 : (D.tup (P.pre.map D.str)).flatT 4 = true := flat_strs' (by have := z.pre; omega)
  have h3 : (D.tup (P.doors.map encPair)).flatT 4 = true := flat_tups (by have := z.doors; omega) fun _ _ => rfl
  show ([_, _, _].all (D.flatT 4) && _) = true
  simp only [List.all_cons, List.all_nil, h1, h2, h3]
  rfl
theorem encProg_imm {P : ProgD} (z : SZ P) : (encProg P).imm = true := flatT_imm 5 _ (flat_prog z)

section
variable {X : Cx} {e : Expr} {rest : List Stmt} {σ : L2.St} {H : Hp} {Dn : Ends} {k : Nat} {x : S} {pos p' : Pos}
/-- x += e, ints -/
theorem ws_augI (i : Nat) (oo : Ok X k) {a b : Int} (hσ : σ[i]? = some (some (.int a))) (h : WE X e σ H fun v H1 => v = .int b ∧ WS X rest Dn (σ.set i (some (.int (a + b)))) H1) (hi : X.N[i]? = some x := by rfl) (hx : Loc X.env.scope x := by first | exact Or.inl rfl | exact Or.inr rfl)
    (hf : X.fn x = true ∨ X.env.scope.names.lookup x = some .local := by first | exact .inl rfl | exact .inr rfl) : WS X (.AugAssign (.Name x p') .Add e pos :: rest) Dn σ H :=
  ws_cons (ps_aug oo.nd hi hx pe_w ip_add hf) ⟨.int a, hσ, h.mono fun v H1 ⟨e1, q⟩ => ⟨a, b, rfl, e1, q⟩⟩
theorem passes {X : Cx} (o : Ok X k) (h : X.xe = fun _ _ => False) : PassesOwn (model X.prog X.w) X.A X.env X.xe := by
  rw [h]
  exact PassesOwn.never
end
theorem hideOf {B H : Hp} {p : Addr} {o : HO} (s : Same B H) (h : B p = none) : Same B (upd H p o) := fun b u e => by
  rw [upd_ne (ne_of_none e h)]
  exact s b u e
theorem take_len {α : Type} {xs : List α} {i : Nat} {x : α} (h : xs[i]? = some x) : xs.take (i + 1) = xs.take i ++ [x] := by rw [List.take_add_one, h]; rfl
theorem addNew_step {f xs : List S} {i : Nat} {x : S} (h : xs[i]? = some x) : addNew f (xs.take (i + 1)) = add1 (addNew f (xs.take i)) x := by
  rw [take_len h]
  unfold addNew
  rw [List.foldl_append]
  rfl
theorem get_map_some {α β : Type} {g : α → β} {xs : List α} {i : Nat} {y : β} (h : (xs.map g)[i]? = some y) : ∃ x, xs[i]? = some x ∧ g x = y := by
  rw [List.getElem?_map] at h
  cases q : xs[i]? with
  | none => rw [q] at h; cases h
  | some x => rw [q] at h; exact ⟨x, rfl, Option.some.inj h⟩

section
variable {P : Program} {w : World} {K : PySem.W.Frag} {mg : Str → Option Value} {base : Heap} {f : Addr} {fd : FuncData} {k : Nat}
abbrev s_row : Stmt := top 21
theorem sc_row : FnScope ["program", "names", "found", "name", "at"] ["program", "names"] (defScope s_row) := ⟨rfl, rfl, rfl, by decide +kernel, rfl, by decide +kernel, by decide +kernel⟩
def RRow : Hp → List D → List D → Prop := fun _ ds es => ∃ (P : ProgD) (ns : List S), ds = [encProg P, .tup (ns.map D.str)] ∧ es = (rowM P ns).map D.str ∧ WF P ∧ SZ P ∧ ns.length ≤ 64 ∧ ∀ n ∈ ns, n ∈ names P
theorem ok_row {ka : Nat} (F : Fun K "row" "row" s_row f fd) (T : Gb mg) (hk : 3 ≤ k ∧ ka ≤ k) (c_as : Cal P w K mg base ka "as_tuples" (spP K (RAs 5))) (c_lib_of : Cal P w K mg base 1 "lib_of" (spP K RLibOf)) (c_lib_at : Cal P w K mg base 2 "lib_at" (spP K RLibAt)) :
    FnOk P w K mg base CX0 (k + 1) f fd ["program", "names"] (spN K RRow) := by
  refine fn_WN F sc_row (fun H ds d h => ?_) (fun cdv A outer s H E vs ds es Q oo h hvs hQ => ?_)
  · obtain ⟨Q, n, rfl, _⟩ := h
    rfl
  · obtain ⟨G, ns, rfl, rfl, hw, hz, hn, hsub⟩ := h
    obtain ⟨v1, v2, rfl, d1, d2⟩ : ∃ v1 v2, vs = [v1, v2] ∧ Dat K H v1 (encProg G) ∧ Dat K H v2 (.tup (ns.map D.str)) := by
      cases hvs with | cons h1 r => cases r with | cons h2 r => cases r; exact ⟨_, _, rfl, h1, h2⟩
    have hlibs := hz.libs
    have e0 : ∀ (H' : Hp), Same H H' → ∀ {ρ3 : Rho} {σ3 : L2.St} (u1 : V), Dat K H' u1 (encProg G) → EL K H' ρ3 σ3 → EL K H' (some (encProg G) :: some (.tup (ns.map D.str)) :: ρ3) (some u1 :: some v2 :: σ3) := fun H' s' ρ3 σ3 u1 du el => .cons du (.cons (d2.mono s') el)
    refine ws_set 0 oo (we_ee (ee_call c_as oo hk.2 (ea_cons (ee_var 0 rfl) ea_nil) (fun _ _ => ⟨rfl, flat_prog hz⟩)) (ρ := [some (encProg G), some (.tup (ns.map D.str))]) (.cons d1 (.cons d2 .nil)) fun u1 H1 s1 du1 => ?_)
    -- found = []
    refine ws_set 2 oo (we_of (pe_lst pa_nil) ⟨Nat.zero_le _, fun pf hpf => ?_⟩)
    have hpfH : H pf = none := s1.free hpf
    -- the names
    obtain ⟨a2, xs2, rfl, hx2, hd2⟩ : ∃ a xs, v2 = .ref a ∧ SqT K H a xs ∧ DatAll K H xs (ns.map D.str) := by
      cases d2 with | tup h t => exact ⟨_, _, rfl, h, t⟩
    have hxs := hd2.strs
    subst hxs
    let J1 : Nat → L2.St → Hp → Prop := fun i σ H' => ∃ (x3 x4 : Option V) (p : Addr), σ = [some u1, some (.ref a2), some (.ref p), x3, x4] ∧ Same H1 H' ∧ H1 p = none ∧ H' p = some (.lst ((addNew [] (ns.take i)).map V.str))
    refine ws_forT oo PassesOwn.never (we_var 1 rfl ⟨a2, ns.map V.str, J1, rfl, ?_, ?_, ?_, ?_⟩)
    · exact ⟨none, none, pf, rfl, Same.new hpf, hpf, upd_same⟩
    · rintro i σ H' _ ⟨x3, x4, p, rfl, s2, _⟩
      exact Same.seqT (s1.trans s2) hx2
    · rintro i x σ H' hx ⟨x3, x4, p, rfl, s2, hp1, hp2⟩
      obtain ⟨n, hn', rfl⟩ := get_map_some hx
      have hmem : n ∈ names G := hsub n (List.mem_of_getElem? hn')
      obtain ⟨l, hl1, hl2, hl3⟩ := libOf_some hmem
      refine wg_name 3 oo ?_
      have hd' : ∀ H2, Same H' H2 → EL K H2 [some (encProg G), none, some (.lst ((addNew [] (ns.take i)).map D.str)), some (.str n)] [some u1, some (.ref a2), some (.ref p), some (.str n), x4] := fun H2 s3 =>
        .cons (du1.mono (s2.trans s3)) (.skip (.cons (.lst (s3 _ _ hp2) (DatAll.of_strs)) (.cons (.str n) .nil)))
      refine ws_expr (we_ee (ee_call c_lib_at oo (by omega) (ea_cons (ee_var 0 rfl) (ea_cons (ee_var 3 rfl) ea_nil)) (fun _ _ => ⟨G, n, l, rfl, rfl, hl1, hlibs⟩)) (hd' H' (Same.refl _)) fun _ H2 s3 _ => ?_)
      have hp3 := s3 _ _ hp2
      by_cases hm : n ∈ addNew [] (ns.take i)
      · refine ws_set 2 oo (we_of (pe_ifExp pt_w pe_w pe_w) (wt_et (et_cmp (od_inS oo (xs := addNew [] (ns.take i))) (ee_var 3 rfl) (ee_var 2 rfl)) (hd' H2 s3) fun H3 s4 => ?_))
        rw [decide_eq_true hm]
        refine iteT (we_var 2 rfl (ws_nil ?_))
        refine ⟨some (.str n), x4, p, rfl, (s2.trans s3).trans s4, hp1, ?_⟩
        rw [addNew_step hn']
        unfold add1
        rw [if_pos hm]
        exact s4 _ _ hp3
      · refine ws_set 2 oo (we_of (pe_ifExp pt_w pe_w pe_w) (wt_et (et_cmp (od_inS oo (xs := addNew [] (ns.take i))) (ee_var 3 rfl) (ee_var 2 rfl)) (hd' H2 s3) fun H3 s4 => ?_))
        rw [decide_eq_false hm]
        refine iteF (we_of (pe_op op_cat pe_w (pe_lst (pa_cons pe_w pa_nil))) ?_)
        refine we_var 2 rfl (we_var 3 rfl ⟨by show 1 ≤ sizeLine; decide, fun q hq => ⟨_, _, _, _, rfl, rfl, (by rw [upd_ne (ne_of_none (s4 _ _ hp3) hq)]; exact s4 _ _ hp3), upd_same, ?_, ?_⟩⟩)
        · have h1 := nodup_len (addNew_nodup (xs := ns.take i) (f := []) List.nodup_nil) (m := names G) fun x hx => hsub x (List.mem_of_mem_take ((addNew_mem.mp hx).resolve_left (by simp)))
          have h2 : (names G).length ≤ 8 := by unfold names; rw [List.length_map]; exact hlibs
          rw [List.length_map]
          show _ + 1 ≤ sizeLine
          exact Nat.le_trans (by omega : _ ≤ 9) (by decide)
        · intro r hr
          refine ws_nil ⟨some (.str n), x4, r, rfl, ?_, ?_, ?_⟩
          · exact ((s2.trans s3).trans s4).trans ((Same.new hq).trans (Same.new hr))
          · exact (((s2.trans s3).trans s4).trans (Same.new hq)).free hr
          · rw [addNew_step hn']
            unfold add1
            rw [if_neg hm, upd_same, List.map_append]
            rfl
    · rintro σ H' ⟨x3, x4, p, rfl, s2, hp1, hp2⟩
      rw [List.length_map, List.take_length] at hp2
      refine ws_set 4 oo (we_of pe_int ?_)
      have hpH : H p = none := s1.free hp1
      let Pv : L2.St → Hp → Prop := fun σ H' => ∃ (x3 : Option V) (at_ : Nat) (fs : List S), σ = [some u1, some (.ref a2), some (.ref p), x3, some (.int (at_ : Nat))] ∧ Same H1 H' ∧ H' p = some (.lst (fs.map V.str)) ∧ at_ ≤ fs.length ∧ fs.Nodup ∧ (∀ x ∈ fs, x ∈ names G) ∧ rowGo G (G.libs.length - at_) fs at_ = rowM G ns
      have lenle : ∀ fs : List S, fs.Nodup → (∀ x ∈ fs, x ∈ names G) → fs.length ≤ G.libs.length := fun fs h1 h2 => by
        have := nodup_len h1 h2
        rwa [names, List.length_map] at this
      let μ : L2.St → Hp → Nat := fun σ _ => match σ[4]? with
        | some (some (V.int i)) => 100 - i.toNat
        | _ => 0
      refine ws_while PassesOwn.never Pv μ ⟨x3, 0, addNew [] ns, rfl, s2, hp2, Nat.zero_le _, addNew_nodup List.nodup_nil, fun x hx => hsub x ((addNew_mem.mp hx).resolve_left (by simp)), rfl⟩ ?_
      rintro σ H2 ⟨y3, at_, fs, rfl, s3, hp3, hat, hnd, hsb, hgo⟩
      have hfl := lenle fs hnd hsb
      have el : ∀ H3, Same H2 H3 → EL K H3 [some (encProg G), none, some (.lst (fs.map D.str)), none, some (.int (at_ : Nat))] [some u1, some (.ref a2), some (.ref p), y3, some (.int (at_ : Nat))] := fun H3 s4 =>
        .cons (du1.mono (s3.trans s4)) (.skip (.cons (.lst (s4 _ _ hp3) DatAll.of_strs) (.skip (.cons (.int _) .nil))))
      have hlen : (D.lst (fs.map D.str)).len = some fs.length := by simp [D.len]
      refine wt_et (et_cmp od_lt (ee_var 4 rfl) (ee_len T.len (ee_var 2 rfl) hlen)) (el H2 (Same.refl _)) fun H3 s4 => ?_
      by_cases hlt : at_ < fs.length
      · rw [decide_eq_true (show ((at_ : Nat) : Int) < ((fs.length : Nat) : Int) by omega)]
        refine iteT ?_
        have hfa : fs[at_]? = some fs[at_] := List.getElem?_eq_getElem hlt
        generalize fs[at_] = nm at hfa
        obtain ⟨l, hl1, hl2, hl3⟩ := libOf_some (hsb nm (List.mem_of_getElem? hfa))
        have hneeds : needsOf G nm = l.needs := by unfold needsOf; rw [hl1]
        have hgo2 : rowGo G (G.libs.length - (at_ + 1)) (addNew fs l.needs) (at_ + 1) = rowM G ns := by
          rw [← hgo]
          have e1 : G.libs.length - at_ = (G.libs.length - (at_ + 1)) + 1 := by omega
          rw [e1]
          conv => rhs; unfold rowGo
          rw [hfa]
          show _ = rowGo G _ (addNew fs (needsOf G nm)) _
          rw [hneeds]
        have s34 := s3.trans s4
        refine ws_forT oo PassesOwn.never (we_ee (ee_ix (ee_call c_lib_of oo (by omega) (ea_cons (ee_var 0 rfl) (ea_cons (ee_ix (da := .lst (fs.map D.str)) (i := (at_ : Nat)) (d := .str nm) (ee_var 2 rfl) (ee_var 4 rfl) (atI_nat (xs := fs.map D.str) (by rw [List.getElem?_map, hfa]; rfl))) ea_nil)) (fun _ _ => ⟨G, nm, rfl, rfl, hlibs⟩)) ee_int (d := .tup (l.needs.map D.str)) (by rw [hl1]; rfl)) (el H3 s4) fun v H4 s5 dv => ?_)
        obtain ⟨q, xs, rfl, hq, hdq⟩ : ∃ a xs, v = .ref a ∧ SqT K H4 a xs ∧ DatAll K H4 xs (l.needs.map D.str) := by
          cases dv with | tup h t => exact ⟨_, _, rfl, h, t⟩
        have hxs := hdq.strs
        subst hxs
        have hp5 := s5 _ _ (s4 _ _ hp3)
        let J2 : Nat → L2.St → Hp → Prop := fun i σ H' => ∃ (y3 : Option V), σ = [some u1, some (.ref a2), some (.ref p), y3, some (.int (at_ : Nat))] ∧ Same H1 H' ∧ Same (hide H4 p) (hide H' p) ∧ H' p = some (.lst ((addNew fs (l.needs.take i)).map V.str))
        refine ⟨q, l.needs.map V.str, J2, rfl, ⟨y3, rfl, s34.trans s5, Same.refl _, hp5⟩, ?_, ?_, ?_⟩
        · rintro i σ H5 _ ⟨z3, rfl, s6, s7, hp6⟩
          have := Same.seqT s7 (hide_T hp5 _ _ hq)
          exact Same.seqT (hide_same H5 p) this
        · rintro i x σ H5 hx ⟨z3, rfl, s6, s7, hp6⟩
          obtain ⟨n, hn', rfl⟩ := get_map_some hx
          refine wg_name 3 oo ?_
          have hnm : n ∈ names G := hw.needs l hl2 n (List.mem_of_getElem? hn')
          have hnd2 : (addNew fs (l.needs.take i)).Nodup := addNew_nodup hnd
          have hsb2 : ∀ x ∈ addNew fs (l.needs.take i), x ∈ names G := fun x hx => by
            rcases addNew_mem.mp hx with h | h
            · exact hsb x h
            · exact hw.needs l hl2 x (List.mem_of_mem_take h)
          refine ws_ifE (et_cmp (od_notInS oo (xs := addNew fs (l.needs.take i))) (ee_var 3 rfl) (ee_var 2 rfl)) (ρ := [none, none, some (.lst ((addNew fs (l.needs.take i)).map D.str)), some (.str n)]) (.skip (.skip (.cons (.lst hp6 DatAll.of_strs) (.cons (.str n) .nil)))) (fun hb H6 s8 => ?_) (fun hb H6 s8 => ?_)
          · have hm : n ∉ addNew fs (l.needs.take i) := by simpa using hb
            have hp7 := s8 _ _ hp6
            refine ws_append (we_var 2 rfl ⟨p, rfl, ⟨_, hp7⟩, we_var 3 rfl ⟨_, hp7, ?_, ws_nil (ws_nil ?_)⟩⟩)
            · have := lenle _ hnd2 hsb2
              rw [List.length_map]
              exact Nat.lt_of_le_of_lt (by omega : _ ≤ 8) (by decide)
            · refine ⟨some (.str n), rfl, hideOf (s6.trans s8) hp1, ?_, ?_⟩
              · rw [hide_upd]
                exact fun b o e => by
                  have h1 := s7 b o e
                  unfold hide at h1 ⊢
                  split at h1
                  · cases h1
                  · rename_i ne
                    rw [if_neg ne]
                    exact s8 _ _ h1
              · rw [addNew_step hn']
                unfold add1
                rw [if_neg hm, upd_same, List.map_append]
                rfl
          · have hm : n ∈ addNew fs (l.needs.take i) := by simpa using hb
            refine ws_nil (ws_nil ⟨some (.str n), rfl, s6.trans s8, ?_, ?_⟩)
            · exact fun b o e => by
                have h1 := s7 b o e
                unfold hide at h1 ⊢
                split at h1
                · cases h1
                · rename_i ne
                  rw [if_neg ne]
                  exact s8 _ _ h1
            · rw [addNew_step hn']
              unfold add1
              rw [if_pos hm]
              exact s8 _ _ hp6
        · rintro σ H5 ⟨z3, rfl, s6, s7, hp6⟩
          rw [List.length_map, List.take_length] at hp6
          refine ws_augI 4 oo (a := (at_ : Nat)) (b := 1) rfl (we_of pe_int ⟨rfl, ws_nil ⟨⟨z3, at_ + 1, addNew fs l.needs, rfl, s6, hp6, ?_, addNew_nodup hnd, fun x hx => ?_, hgo2⟩, ?_⟩⟩)
          · obtain ⟨t, et⟩ := addNew_pre (xs := l.needs) fs
            rw [et, List.length_append]
            omega
          · rcases addNew_mem.mp hx with h | h
            · exact hsb x h
            · exact hw.needs l hl2 x h
          · show 100 - (((at_ : Nat) : Int) + 1).toNat < 100 - ((at_ : Nat) : Int).toNat
            omega
      · rw [decide_eq_false (show ¬ ((at_ : Nat) : Int) < ((fs.length : Nat) : Int) by omega)]
        refine iteF (ws_ret (we_var 2 rfl ?_))
        have e : fs = rowM G ns := by
          rw [← hgo]
          have hnone : fs[at_]? = none := List.getElem?_eq_none_iff.mpr (by omega)
          cases G.libs.length - at_ with
          | zero => rfl
          | succ k => unfold rowGo; rw [hnone]
        subst e
        exact hQ p _ H3 hpH ((s1.trans s3).trans s4) (s4 _ _ hp3) DatAll.of_strs
end
end K74

set_option Elab.async false
set_option linter.all false
set_option maxRecDepth 100000
set_option maxHeartbeats 4000000
/-! K74.KA1: len(set(xs)) of a tuple of names without doubles (after HandS.Strs, there for one name at most). -/
namespace K74
open PySem PySem.Spec PyProof.Rows

section
variable {prog : Program} {w : World} {A : Around} {R : Result → Shared → Prop} {I : Addr} {fp wr : List Addr} {G : Array GenState → Array GenState → Prop} {n : Nat} {P : Nat → Value → Prop} {St : Nat → Shared → Prop}
theorem loopStrN (W : WalksS prog w A.in1 I fp wr G n P St) (S : Addr) (hSf : S ∉ fp) (xs : List Str) (hsz : xs.length = n) (hn1 : n + 1 < scanBound) (hnd : xs.Nodup)
    (hval : ∀ i v, P i v → ∃ t, v = .str (xs.getD i Str.empty) t) :
    ∀ (k i : Nat) (s : Shared), n - i = k → i ≤ n → St i s →
      s.heap.SetOf (PySem.strKind prog w) S (fun k' => (xs.take i).any (· == k')) i →
      (∀ s', Moved (S :: wr) G s s' → s'.heap.SetOf (PySem.strKind prog w) S (fun k' => (xs.take n).any (· == k')) n → R (.ok (.ret .none)) s') →
      codeAny (model prog w) A (.builtin "set.update.loop" ⟨[.ref S, .ref I], []⟩) R s := by
  have hSw : S ∉ wr := fun h => hSf (W.sub _ h)
  have hsub : ∀ b ∈ wr, b ∈ S :: wr := fun b hb => List.mem_cons_of_mem _ hb
  intro k
  induction k with
  | zero =>
    intro i s hk hi hst hS hR
    have hin : i = n := by omega
    subst hin
    refine codeAny_builtin PyProof.Rows.F.entry_set_update_loop ?_
    rw [Around.under_plainId PyProof.Rows.F.plain_set_update_loop _]
    show wpAny _ A.in1 (pyNext (.ref I) >>= _) _ _ s
    refine wpAny_bind (W.done s _ _ hst fun s' hm => ?_)
    show wpAny _ A.in1 (ret Value.none) _ _ s'
    exact wpAny_pure (hR s' (hm.mono hsub) (by
      obtain ⟨o, es, ep, t, ho, rest⟩ := hS
      exact ⟨o, es, ep, t, hm.heap S _ hSw ho, rest⟩))
  | succ k ih =>
    intro i s hk hi hst hS hR
    have hlt : i < n := by omega
    refine codeAny_builtin PyProof.Rows.F.entry_set_update_loop ?_
    rw [Around.under_plainId PyProof.Rows.F.plain_set_update_loop _]
    show wpAny _ A.in1 (pyNext (.ref I) >>= _) _ _ s
    refine wpAny_bind (W.item i s _ _ hlt hst fun v s' hP hst' hm => ?_)
    obtain ⟨t, rfl⟩ := hval i v hP
    have hS' : s'.heap.SetOf (PySem.strKind prog w) S (fun k' => (xs.take i).any (· == k')) i := by
      obtain ⟨o, es, ep, tb, ho, rest⟩ := hS
      exact ⟨o, es, ep, tb, hm.heap S _ hSw ho, rest⟩
    show wpAny _ A.in1 (holding [Value.str (xs.getD i Str.empty) t] (setAdd S (.str (xs.getD i Str.empty) t)) >>= _) _ _ s'
    refine wpAny_bind (wpAny_holding ?_)
    unfold setAdd
    refine wpAny_holding ?_
    refine wpAny_bind ((PySem.strKind prog w).pyHash (k := xs.getD i Str.empty) (strKind_is _ _ _ _) ?_)
    refine wpAny_setAddHashed_of (knd := PySem.strKind prog w) (s := { s' with toks := s'.toks + 1 }) (strKind_is _ _ _ _) rfl hS' (by omega) fun h' hsb hS2 => ?_
    have hSi : h'.SetOf (PySem.strKind prog w) S (fun k' => (xs.take (i + 1)).any (· == k')) (i + 1) := by
      have hx : xs[i]? = some (xs.getD i Str.empty) := by
        rw [List.getD_eq_getElem?_getD, List.getElem?_eq_getElem (by omega)]
        rfl
      have hnot : ∀ y ∈ xs.take i, y ≠ xs.getD i Str.empty := fun y hy e => by
        obtain ⟨m, hm⟩ := List.mem_iff_getElem?.mp hy
        rw [List.getElem?_take] at hm
        split at hm
        · rename_i hmi
          rw [e] at hm
          have := (List.getElem?_inj (List.getElem?_eq_some_iff.mp hm).1 hnd).mp (hm.trans hx.symm)
          omega
        · cases hm
      have hf : (xs.take i).any (· == xs.getD i Str.empty) = false := List.any_eq_false.mpr fun y hy => by simpa using hnot y hy
      refine SetOf_congr hS2 (fun k' => ?_) (by rw [hf]; rfl)
      rw [List.take_add_one, hx, List.any_append]
      show _ = (_ || [xs.getD i Str.empty].any (· == k'))
      congr 1
      simp only [List.any_cons, List.any_nil, Bool.or_false]
      by_cases e : k' = xs.getD i Str.empty
      · rw [e]
        simp
      · rw [decide_eq_false e]
        exact (beq_eq_false_iff_ne.mpr fun z => e z.symm).symm
    refine wpAny_pure ⟨plainId_quiet PyProof.Rows.F.plain_set_update_loop _, ih (i + 1) _ (by omega) hlt (W.frame _ s' _ _ hst' (Nat.le_succ _) fun b hb o e => ?_) hSi fun s'' hm'' hS'' => ?_⟩
    · rw [hsb.2 b (fun h : b = S => hSf (by rw [← h]; exact hb))]; exact e
    · refine hR s'' (Moved.trans W.gtrans ((hm.mono hsub).then_heap (Nat.le_succ _) fun b o hb e => ?_) hm'') hS''
      rw [hsb.2 b (fun h : b = S => hb (by rw [h]; exact List.mem_cons_self))]; exact e
end

section
variable {prog : Program} {w : World} {A : Around} {E : Value → Shared → Prop} {s : Shared}
set_option maxHeartbeats 3200000 in
theorem call_set_tupleSN {l : Addr} {items : Array Value} {xs : List Str} {Q : Value → Shared → Prop}
    (hh : A.handled = none) (hl : s.heap.IsTuple l items) (hi : PyProof.Rows.StrsAre items.toList xs) (hn1 : xs.length + 1 < scanBound) (hnd : xs.Nodup)
    (h : ∀ (h' : Heap) (tk : Nat), h'.SetOf (PySem.strKind prog w) s.heap.objs.size (fun k' => (xs.take items.size).any (· == k')) items.size →
      (∀ b o, b < s.heap.objs.size → s.heap.get? b = some o → h'.get? b = some o) → Q (.ref s.heap.objs.size) { s with heap := h', toks := tk }) :
    wpAny (model prog w) A (call (.type "set") [.ref l]) Q E s := by
  obtain ⟨c, tl, hmro⟩ := PySem.F.called_set.mro
  have hmade := PySem.F.called_set.made
  have hsub := PySem.F.called_set.sub
  refine wpAny_call (codeAny_of_tree ?_)
  show wpAny _ _ (callAny (.type "set") _) _ _ _
  refine wpAny_pure ⟨Code.quiet_builtin _ (by decide +kernel), codeAny_builtin PySem.F.entry_type_call ?_⟩
  rw [Around.under_plain (weight_type_call_type "set" [.ref l] []) rfl]
  have h1 := PySem.F.called_set.notType
  have h2 := PySem.F.called_set.canCreate
  have hct := PySem.F.typeCall_set_1 (.ref l)
  repeat (any_goals (first | assumption | wp_step))

  refine codeAny_mono (code_set_new_1 (.ref l) (E := E) (Q₁ := fun obj s₁ => ∃ led : Bool, obj = .ref s.heap.objs.size ∧ s₁ = { s with heap := s.heap.push { cls := .type "set", dict := none, data := .set #[] 0 (.fresh 0 0 led) } }) fun led => ⟨led, rfl, rfl⟩) fun r s₁ hr => ?_
  cases r with
  | error e => exact hr
  | ok fl =>
    cases fl with
    | ret obj =>
      obtain ⟨led, rfl, rfl⟩ := hr
      have hS : (s.heap.push { cls := .type "set", dict := none, data := .set #[] 0 (.fresh 0 0 led) }).get? s.heap.objs.size = some { cls := .type "set", dict := none, data := .set #[] 0 (.fresh 0 0 led) } := Heap.get?_push_size _ rfl
      have hT : Shared.TypeIs { s with heap := s.heap.push { cls := .type "set", dict := none, data := .set #[] 0 (.fresh 0 0 led) } } (.ref s.heap.objs.size) "set" := ⟨_, hS, rfl⟩
      have hli := PySem.F.called_set.init.lookup
      have hbi := PySem.F.called_set.init.bind (.ref s.heap.objs.size)
      repeat (any_goals (first | assumption | wp_step))

      refine codeAny_mono (codeAny_call_builtin (R := wants (fun r s₂ => r = .none ∧ ∃ h' tk, s₂ = { s with heap := h', toks := tk } ∧
          h'.SetOf (PySem.strKind prog w) s.heap.objs.size (fun k' => (xs.take items.size).any (· == k')) items.size ∧
          (∀ b o, b < s.heap.objs.size → s.heap.get? b = some o → h'.get? b = some o)) E) PySem.F.called_set.init.plain PySem.F.entry_set_init (check_set_init_1 hT ?_)) fun r₂ s₂ hr₂ => ?_
      · obtain ⟨ol, hol, hcl, nl, hdl⟩ := hl
        obtain ⟨ocls, odict, odata, oslots⟩ := ol
        simp only at hcl hdl
        subst hcl; subst hdl
        have hol' : (s.heap.push { cls := .type "set", dict := none, data := .set #[] 0 (.fresh 0 0 led) }).get? l = some { cls := .type "tuple", dict := odict, data := .seq items nl, slots := oslots } := Heap.get?_push_of_some _ hol
        have hsls := PySem.F.sub_tuple_set
        have hslf := PySem.F.sub_tuple_frozenset
        have hne : (Value.type "tuple" == Value.type "dict") = false := by decide
        have hl1 : (s.heap.push { cls := .type "set", dict := none, data := .set #[] 0 (.fresh 0 0 led) }).IsTuple l items := ⟨_, hol', rfl, nl, rfl⟩
        unfold Builtin.«set.__init__» noKeywords Builtin.Frozenset.updateFrom
        generalize hPI : pyIter = PI
        wp_walk
        subst hPI

        refine wpAny_pyIter_tuple hl1 ?_
        refine wpAny_bind (wpAny_runValue ?_)
        have hlS : l < s.heap.objs.size := Heap.lt_size hol
        have hh3 : A.in1.in1.in1.handled = none := by simp [hh]
        have hneI : l ≠ (s.heap.push { cls := .type "set", dict := none, data := .set #[] 0 (.fresh 0 0 led) }).objs.size := by
          rw [Heap.size_push]; exact Nat.ne_of_lt (Nat.lt_succ_of_lt hlS)
        have hSf : s.heap.objs.size ∉ [(s.heap.push { cls := .type "set", dict := none, data := .set #[] 0 (.fresh 0 0 led) }).objs.size, l] := by
          rw [Heap.size_push]; simp only [List.mem_cons, List.mem_singleton, List.not_mem_nil, or_false, not_or]
          exact ⟨Nat.ne_of_lt (Nat.lt_succ_self _), Nat.ne_of_gt hlS⟩
        have hsz : xs.length = items.size := by rw [← StrsAre.len_eq hi, Array.length_toList]
        have hval : ∀ (i : Nat) (v : Value), items[i]? = some v → ∃ t, v = .str (xs.getD i Str.empty) t := fun i v hv => SS.strs_at hi i v (by rw [Array.getElem?_toList]; exact hv)
        refine loopStrN ((Walks.tuple hh3 _ l hneI items).toS) s.heap.objs.size
          hSf xs hsz (by rw [← hsz]; exact hn1) hnd hval (items.size - 0) 0 _ (by omega) (Nat.zero_le _)
          ⟨⟨_, Heap.get?_push_size _ rfl, rfl, rfl⟩, (hl1.push _)⟩ ?hS0 ?hR
        case hS0 =>
          have hget : ((s.heap.push { cls := .type "set", dict := none, data := .set #[] 0 (.fresh 0 0 led) }).push { cls := .type "tuple_iterator", data := .fields #[.ref l, .int 0 0] }).get? s.heap.objs.size
              = some { cls := .type "set", dict := none, data := .set #[] 0 (.fresh 0 0 led) } := Heap.get?_push_of_some _ hS
          exact PyProof.Rows.SetOf_congr ((PyProof.Rows.setObjOf_fresh (knd := PySem.strKind prog w) led).setOf hget (by unfold scanBound; omega)) (fun _ => rfl) rfl
        case hR =>
          intro s' hm hS'
          obtain ⟨h', g', d', tk', os'⟩ := s'
          have eg : g' = s.gens := hm.gens
          have ed : d' = s.drawn := hm.drawn
          have eo : os' = s.os := hm.os
          subst eg; subst ed; subst eo
          show wpAny _ _ _ _ _ _
          refine wpAny_pure ?_
          show wpAny _ _ (ret Value.none) _ _ _
          refine wpAny_pure ⟨rfl, h', tk', rfl, hS', fun b o hb e => ?_⟩
          have hb1 : b ≠ s.heap.objs.size := Nat.ne_of_lt hb
          have hb2 : b ≠ (s.heap.push { cls := .type "set", dict := none, data := .set #[] 0 (.fresh 0 0 led) }).objs.size := by
            rw [Heap.size_push]; exact Nat.ne_of_lt (Nat.lt_succ_of_lt hb)
          exact hm.heap b o (by simp only [List.mem_cons, List.mem_singleton, List.not_mem_nil, or_false, not_or]; exact ⟨hb1, hb2⟩) (Heap.get?_push_of_some _ (Heap.get?_push_of_some _ e))

      · cases r₂ with
        | error e => exact hr₂
        | ok fl₂ =>
          cases fl₂ with
          | ret r =>
            obtain ⟨rfl, h', tk, rfl, hS', hk'⟩ := hr₂
            repeat (any_goals (first | assumption | wp_step))
            exact h _ _ hS' hk'
          | _ => exact hr₂.elim
    | _ => exact hr.elim

end

section
open L2
variable {X : Cx} {B : Hp} {ρ : Rho} {k : Nat} {a : Expr} {pos p p1 p2 : Pos}
/-- len(set(xs)), xs a tuple of names without doubles -/
theorem ee_lenSet {xs : List S} (o : Ok X k) (hm : X.mg "len" = none) (hm2 : X.mg "set" = none) (ha : EE X a B ρ (.tup (xs.map D.str))) (hnd : xs.Nodup) (hl : xs.length + 1 < scanBound) (hg : Gl X "len" := by rfl) (hg2 : Gl X "set" := by rfl)
    (na : starEach [a] X.env = (false, eval a X.env) :: starEach [] X.env := by rfl) : EE X (.Call (.Name "len" p) [.Call (.Name "set" p2) [a] [] p1] [] pos) B ρ (.int (xs.length : Nat)) := by
  refine ⟨fun pins s σ H Q I h => ?_⟩
  refine PyProof.Rows.Call_ (ld_blt I hg hm PySem.boot_len ?_)
  refine PyProof.Rows.callWith_builtin1 (PyProof.Rows.args_cons ?_ rfl) rfl rfl
  refine PyProof.Rows.Call_ (ld_blt I hg2 hm2 (by decide +kernel : bootBuiltins "set" = some (.type "set")) ?_)
  refine PyProof.Rows.callWith_type1 (PyProof.Rows.args_cons (thn (ha.run pins s σ H _ I ⟨h.1, fun v H' s' dv => (⟨s', dv⟩ : Same H H' ∧ Dat X.K H' v (.tup (xs.map D.str)))⟩) fun v s1 ⟨x, H1, I1, r1, s2, dv⟩ => PyProof.Rows.args_nil ?_) na) na rfl
  cases dv with
  | @tup l vs ds hq hd =>
    cases r1
    rw [hd.strs] at hq
    obtain ⟨its, r, pl, hz⟩ := I1.tuple hq
    have hr : StrsAre its.toArray.toList xs := by simpa using strsAre_of r
    refine call_set_tupleSN (I1.ok.hd o.calm) pl hr hl hnd fun h' tk hS hk => PyProof.Rows.args_nil ?_
    have hl2 : its.toArray.size = xs.length := by rw [List.size_toArray, ← r.length, List.length_map]
    rw [hl2] at hS
    obtain ⟨ob, es, ep, t, ho, hex, hd2, _, _, _, hf, hn⟩ := hS
    have I2 : Inv X pins σ H1 { s1 with heap := h', toks := tk } := I1.kept fun b o e => hk b o (Heap.lt_size e) e
    exact call_len_set ho hex hd2 hf (by rw [hn]; unfold scanBound at hl; omega) ⟨.int xs.length, H1, I2.tok _, ⟨_, by rw [hn]⟩, h.2 _ H1 s2 (.int _)⟩
end
end K74

set_option Elab.async false
set_option linter.all false
set_option maxRecDepth 100000
set_option maxHeartbeats 4000000
/-! K74.KA4: first_row, door_row, others_of, with_preload, server, doors_of, looked, is_name, are_names, is_preload, rows_of_names, names_in. -/
namespace K74
open PySem PySem.Spec PyProof.Rows L2

theorem Le.cons {ρ' ρ : Rho} {x : Option D} (h : Le ρ' ρ) : Le (x :: ρ') (x :: ρ) := ⟨Nat.succ_le_succ h.1, fun i d hi => by
  cases i with
  | zero => exact hi
  | succ i => exact h.2 i d hi⟩
theorem Le.skip {ρ' ρ : Rho} {x : Option D} (h : Le ρ' ρ) : Le (none :: ρ') (x :: ρ) := ⟨Nat.succ_le_succ h.1, fun i d hi => by
  cases i with
  | zero => cases hi
  | succ i => exact h.2 i d hi⟩
theorem Le.nil {ρ : Rho} : Le [] ρ := ⟨Nat.zero_le _, fun i d hi => by simp at hi⟩

theorem EL.start {K : PySem.W.Frag} {H : Hp} {N : List S} {vs : List V} {ds : List D} (h : DatAll K H vs ds) : EL K H (startR N ds) (L2.start N vs) := by
  have hl := h.length
  have g : ∀ n, EL K H (List.replicate n none) (List.replicate n (none : Option V)) := fun n => by
    induction n with
    | zero => exact .nil
    | succ n ih => exact .skip ih
  unfold startR L2.start
  rw [hl]
  generalize N.length - ds.length = m
  clear hl
  induction vs generalizing ds with
  | nil => cases h; exact g m
  | cons v vs ih => cases h with | cons h t => exact .cons h (ih t)
section
variable {X : Cx} {e elt tg iter tg1 iter1 : Expr} {ifs ifs1 : List Expr} {scope : Scope} {rest : List Stmt} {σ : L2.St} {H : Hp} {Dn : Ends} {k : Nat} {x y : S} {pos p p' : Pos} {ds : List D} {ρ : Rho}
theorem ws_setLc (i : Nat) (oo : Ok X k) (h : LC X elt tg iter ifs scope H ρ ds) (el : EL X.K H ρ σ) (hr : ∀ l ws H', H l = none → Same H H' → H' l = some (.lst ws) → DatAll X.K H' ws ds → WS X rest Dn (σ.set i (some (.ref l))) H') (hy : X.N[i]? = some y := by rfl) (hyl : X.env.scope.names.lookup y = some .local := by rfl)
    (hsw : swapsWith (.ListComp elt [⟨tg, iter, ifs, 0⟩] scope p) (some (.Name y p')) pos.line X.env = pure true := by exact sw_true rfl rfl rfl (by decide +kernel)) : WS X (.Assign [.Name y p'] (.ListComp elt [⟨tg, iter, ifs, 0⟩] scope p) pos :: rest) Dn σ H := by
  obtain ⟨own, wi, g, tt, te, h1, ok, hg, ht, he, hs, q⟩ := h.ex
  exact wss_of (pss_cons (ps_setLc oo.calm oo.nd hy hyl hsw h1 ok hg ht he hs) pss_w) (q σ H (fun x H1 => gName i x σ H1 (WS X rest Dn)) (el.env (Same.refl H)) fun l ws H1 a s1 hl hd => hr l ws H1 a s1 hl hd)
theorem ws_setLc2 (i : Nat) (oo : Ok X k) (h : LC2 X elt tg iter tg1 iter1 ifs ifs1 scope H ρ ds) (el : EL X.K H ρ σ) (hr : ∀ l ws H', H l = none → Same H H' → H' l = some (.lst ws) → DatAll X.K H' ws ds → WS X rest Dn (σ.set i (some (.ref l))) H') (hy : X.N[i]? = some y := by rfl) (hyl : X.env.scope.names.lookup y = some .local := by rfl)
    (hsw : swapsWith (.ListComp elt [⟨tg, iter, ifs, 0⟩, ⟨tg1, iter1, ifs1, 0⟩] scope p) (some (.Name y p')) pos.line X.env = pure true := by exact sw_true rfl rfl rfl (by decide +kernel)) :
    WS X (.Assign [.Name y p'] (.ListComp elt [⟨tg, iter, ifs, 0⟩, ⟨tg1, iter1, ifs1, 0⟩] scope p) pos :: rest) Dn σ H := by
  obtain ⟨own, vs1, wi, wi1, g, g1, tt, tt1, te, h1, ok, hvs, hg, ht, hi1, hg1, ht1, he, hs, hs1, q⟩ := h.ex
  exact wss_of (pss_cons (ps_setLc2 oo.calm oo.nd hy hyl hsw h1 ok hvs hg ht hi1 hg1 ht1 he hs hs1) pss_w) (q σ H (fun x H1 => gName i x σ H1 (WS X rest Dn)) (el.env (Same.refl H)) fun l ws H1 a s1 hl hd => hr l ws H1 a s1 hl hd)
end

/-! ### the mirrors -/
def others (P : ProgD) : List S := sortS ((P.libs.drop 1).map (·.name))
def withPre (P : ProgD) (pre : List S) : ProgD := ⟨P.libs, pre, P.doors⟩
def encOptAns : Option Ans → D
  | some a => encAns a
  | none => .non
theorem isNon_optAns {o : Option Ans} : isNonD (encOptAns o) = o.isNone := by cases o <;> rfl
def isNameM (z : S) : Bool := decide (0 < z.length ∧ z.length ≤ 8) && z.cps.toList.all fun c => !(Builtin.Str.occurrences sLetters ⟨#[c]⟩ 0 sLetters.length 1).isEmpty
def rowsM (ns : List S) : Nat → List (List S)
  | 0 => [[]]
  | m + 1 => (rowsM ns m).flatMap fun l => (ns.filter fun n => !decide (n ∈ l)).map fun n => l ++ [n]
def namesIn (P : ProgD) (ws : List WantD) : List S := (others P).filter fun n => decide (n ∈ wantNames ws)
/-- an answer as the program knows it -/
def AnsOk (a : Ans) : Prop := (∃ n v, a = [sBound, n, v]) ∨ a = [sNobody] ∨ a = [sLost]
/-- a wish that may be asked -/
structure WOk (P : ProgD) (w : WantD) : Prop where
  use : ∃ l u, libOf P w.who = some l ∧ l.uses[w.i]? = some u
  ans : AnsOk w.ans
def srvF (G : ProgD) (u : UseD) : D → Option D
  | .str n => (ansOf G u n).map encAns
  | _ => none
theorem srvF_line {G : ProgD} {u : UseD} {line : List S} : (line.map D.str).findSome? (srvF G u) = (server G line u).map encAns := by
  unfold server
  induction line with
  | nil => rfl
  | cons x r ih =>
    rw [List.map_cons, List.findSome?_cons, List.findSome?_cons, ih]
    have e1 : srvF G u (D.str x) = (ansOf G u x).map encAns := rfl
    rw [e1]
    cases ansOf G u x <;> rfl
theorem sz64 {n : Nat} (h : n ≤ 64) : n < sizeLine := Nat.lt_of_le_of_lt h (by decide)
theorem imm_ans {a : Ans} : (encAns a).imm = true := imms_strs
theorem imm_want {w : WantD} : (encWant w).imm = true := by
  show (true && (true && (imms (w.ans.map D.str) && true))) = true
  rw [imms_strs]
  rfl
theorem len_map {α : Type} {g : α → D} {xs : List α} : (D.tup (xs.map g)).len = some xs.length := by simp [D.len]
theorem len_mapL {α : Type} {g : α → D} {xs : List α} : (D.lst (xs.map g)).len = some xs.length := by simp [D.len]
theorem flat_ans {a : Ans} (h : a.length ≤ 64) : (encAns a).flatT 1 = true := flat_strs' h
theorem AnsOk.len {a : Ans} (h : AnsOk a) : a.length ≤ 64 := by
  rcases h with ⟨n, v, rfl⟩ | rfl | rfl
  · exact (by decide : 3 ≤ 64)
  · exact (by decide : 1 ≤ 64)
  · exact (by decide : 1 ≤ 64)
theorem flat_wants {P : ProgD} {ws : List WantD} (h : ws.length ≤ 64) (hw : ∀ w ∈ ws, WOk P w) : (D.tup (ws.map encWant)).flatT 3 = true := flat_tups h fun w hm => by
  show ([D.str w.who, D.int (w.i : Int), encAns w.ans].all (D.flatT 1) && _) = true
  simp only [List.all_cons, List.all_nil, flat_ans (hw w hm).ans.len]
  rfl
theorem others_sub {P : ProgD} {x : S} (h : x ∈ others P) : x ∈ names P := by
  unfold others sortS at h
  obtain ⟨l, hl, rfl⟩ := List.mem_map.mp ((List.mergeSort_perm _ _).mem_iff.mp h)
  exact List.mem_map.mpr ⟨l, List.mem_of_mem_drop hl, rfl⟩
theorem others_len {P : ProgD} : (others P).length = P.libs.length - 1 := by
  unfold others sortS
  rw [List.length_mergeSort, List.length_map, List.length_drop]

section
variable {P : Program} {w : World} {K : PySem.W.Frag} {mg : Str → Option Value} {base : Heap} {f : Addr} {fd : FuncData} {k : Nat}
abbrev s_first_row : Stmt := top 22
theorem sc_first_row : FnScope ["program"] ["program"] (defScope s_first_row) := ⟨rfl, rfl, rfl, by decide +kernel, rfl, by decide +kernel, by decide +kernel⟩
def RFirstRow : Hp → List D → List D → Prop := fun _ ds es => ∃ (G : ProgD), ds = [encProg G] ∧ es = (rowM G (mainOf G :: G.pre)).map D.str ∧ WF G ∧ SZ G ∧ ∀ n ∈ G.pre, n ∈ names G
theorem mainOf_names {P : ProgD} (h : P.libs ≠ []) : mainOf P ∈ names P := by
  obtain ⟨libs, pre, doors⟩ := P
  cases libs with
  | nil => exact absurd rfl h
  | cons l r => exact List.mem_cons_self
theorem ee_main {X : Cx} {B : Hp} {ρ : Rho} {a : Expr} {i1 i2 i3 : Nat} {p1 p2 p3 q1 q2 q3 : Pos} {G : ProgD} (h : EE X a B ρ (encProg G)) (hne : G.libs ≠ []) :
    EE X (.Subscript (.Subscript (.Subscript a (.Constant (.int 0) i1 p1) q1) (.Constant (.int 0) i2 p2) q2) (.Constant (.int 0) i3 p3) q3) B ρ (.str (mainOf G)) := by
  obtain ⟨libs, pre, doors⟩ := G
  cases libs with
  | nil => exact absurd rfl hne
  | cons l r => exact ee_ix (ee_ix (ee_ix h ee_int rfl) ee_int (by show atI _ _ = _; simp [atI, ixN] <;> rfl)) ee_int rfl
theorem ok_first_row {kr ka : Nat} (F : Fun K "first_row" "first_row" s_first_row f fd) (hk : kr ≤ k ∧ ka ≤ k) (c_as : Cal P w K mg base ka "as_tuples" (spP K (RAs 5))) (c_row : Cal P w K mg base kr "row" (spN K RRow)) : FnOk P w K mg base CX0 (k + 1) f fd ["program"] (spN K RFirstRow) := by
  refine fn_WN F sc_first_row (fun H ds d h => ?_) (fun cdv A outer s H E vs ds es Q oo h hvs hQ => ?_)
  · obtain ⟨Q, rfl, _⟩ := h
    rfl
  · obtain ⟨G, rfl, rfl, hw, hz, hsub⟩ := h
    obtain ⟨v1, rfl, d1⟩ : ∃ v1, vs = [v1] ∧ Dat K H v1 (encProg G) := by
      cases hvs with | cons h1 r => cases r; exact ⟨_, rfl, h1⟩
    refine ws_set 0 oo (we_ee (ee_call c_as oo hk.2 (ea_cons (ee_var 0 rfl) ea_nil) (fun _ _ => ⟨rfl, flat_prog hz⟩)) (ρ := [some (encProg G)]) (.cons d1 .nil) fun u1 H1 s1 du1 => ?_)
    refine ws_ret (we_en (en_call c_row oo hk.1 (ea_cons (ee_var 0 rfl) (ea_cons (ee_op (od_addT (xs := [.str (mainOf G)]) (ys := G.pre.map D.str) (by
      have := hz.pre
      simp only [List.length_map, List.length_cons, List.length_nil]
      exact Nat.le_trans (by omega : _ ≤ 9) (by decide))) (ee_tup (ea_cons (ee_main (ee_var 0 rfl) hw.ne) ea_nil)) (ee_ix (ee_var 0 rfl) ee_int rfl)) ea_nil)) (fun _ _ => ⟨G, mainOf G :: G.pre, rfl, rfl, hw, hz, ?_, ?_⟩)) (ρ := [some (encProg G)]) (.cons du1 .nil) fun l ws H2 hl s2 h2 hd => hQ l ws H2 (s1.free hl) (s1.trans s2) h2 hd)
    · have := hz.pre
      simp only [List.length_cons]
      omega
    · intro n hn
      rcases List.mem_cons.mp hn with rfl | hn
      · exact mainOf_names hw.ne
      · exact hsub n hn
abbrev s_door_row : Stmt := top 23
theorem sc_door_row : FnScope ["program", "number"] ["program", "number"] (defScope s_door_row) := ⟨rfl, rfl, rfl, by decide +kernel, rfl, by decide +kernel, by decide +kernel⟩
def RDoorRow : Hp → List D → List D → Prop := fun _ ds es => ∃ (G : ProgD) (i : Nat), ds = [encProg G, .int (i : Nat)] ∧ es = (doorRow G i).map D.str ∧ WF G ∧ SZ G ∧ i < G.doors.length
theorem ok_door_row {kr : Nat} (F : Fun K "door_row" "door_row" s_door_row f fd) (hk : kr ≤ k) (c_row : Cal P w K mg base kr "row" (spN K RRow)) : FnOk P w K mg base CX0 (k + 1) f fd ["program", "number"] (spN K RDoorRow) := by
  refine fn_WN F sc_door_row (fun H ds d h => ?_) (fun cdv A outer s H E vs ds es Q oo h hvs hQ => ?_)
  · obtain ⟨Q, i, rfl, _⟩ := h
    rfl
  · obtain ⟨G, i, rfl, rfl, hw, hz, hi⟩ := h
    have hdo : G.doors[i]? = some G.doors[i] := List.getElem?_eq_getElem hi
    generalize G.doors[i] = dd at hdo
    have hr : doorRow G i = rowM G [dd.1] := by unfold doorRow; rw [hdo]
    refine ws_ret (we_en (en_call c_row oo hk (ea_cons (ee_var 0 rfl) (ea_cons (ee_tup (ea_cons (ee_ix (da := encPair dd) (ee_ix (da := .tup (G.doors.map encPair)) (i := (i : Nat)) (ee_ix (ee_var 0 rfl) ee_int rfl) (ee_var 1 rfl) (atI_nat (xs := G.doors.map encPair) (by rw [List.getElem?_map, hdo]; rfl))) ee_int rfl) ea_nil)) ea_nil)) (fun _ _ => ⟨G, [dd.1], rfl, by rw [hr], hw, hz, (by decide : 1 ≤ 64), ?_⟩)) (EL.start hvs) fun l ws H2 hl s2 h2 hd => hQ l ws H2 hl s2 h2 hd)
    intro n hn
    have : n = dd.1 := by simpa using hn
    subst this
    exact hw.doors dd (List.mem_of_getElem? hdo)

abbrev s_others_of : Stmt := top 46
theorem sc_others_of : FnScope ["program", "lib"] ["program"] (defScope s_others_of) := ⟨rfl, rfl, rfl, by decide +kernel, rfl, by decide +kernel, by decide +kernel⟩
def ROthers : Hp → List D → List D → Prop := fun _ ds es => ∃ (G : ProgD), ds = [encProg G] ∧ es = (others G).map D.str ∧ SZ G
theorem ok_others_of (F : Fun K "others_of" "others_of" s_others_of f fd) (T : Gb mg) : FnOk P w K mg base CX0 1 f fd ["program"] (spN K ROthers) := by
  refine fn_WN F sc_others_of (fun H ds d h => ?_) (fun cdv A outer s H E vs ds es Q oo h hvs hQ => ?_)
  · obtain ⟨Q, rfl, _⟩ := h
    rfl
  · obtain ⟨G, rfl, rfl, hz⟩ := h
    have hz1 := hz.libs
    refine ws_ret (we_en (en_sortedS T.sorted (ee_lc oo (lc_is (by rw [List.filter_eq_self.mpr (fun _ _ => rfl), List.map_map]; rfl) (lc_mk (xs := G.libs.drop 1) (enc := encLib) (p := fun _ => true) (f := fun l => .str l.name) (ρ' := fun l => [some (encProg G), some (encLib l)]) [("lib", 1)] (blkOk_by rfl) (si_tup (by
        rw [List.map_drop]
        exact ee_from (ee_ix (ee_var 0 rfl) ee_int rfl) ee_int (pe_slice sl_tupA (ee_ix (ee_var 0 rfl) ee_int rfl) (po_some ee_int) po_none)))
      (fun _ _ _ _ _ => pg_name (i := 1) oo.nd rfl (Or.inl rfl)) (fun x hx => tg_name) (fun _ _ _ _ _ x hx => ets_nil) (fun _ _ _ _ _ x hx hp => (ee_ix (ee_var 1 rfl) ee_int rfl)) (own1 rfl) (fun x hx => rfl) (by rw [List.length_drop]; exact sz8 (by omega))))) (xs := (G.libs.drop 1).map (·.name)) (by rw [List.length_map, List.length_drop]; omega)) (ρ := startR ["program", "lib"] [encProg G]) (EL.start hvs) fun l ws H2 hl s2 h2 hd => hQ l ws H2 hl s2 h2 (by unfold others; exact hd))

abbrev s_with_preload : Stmt := top 47
theorem sc_with_preload : FnScope ["program", "preload"] ["program", "preload"] (defScope s_with_preload) := ⟨rfl, rfl, rfl, by decide +kernel, rfl, by decide +kernel, by decide +kernel⟩
def RWithPre : Hp → List D → D → Prop := fun _ ds d => ∃ (G : ProgD) (pre : List S), ds = [encProg G, .tup (pre.map D.str)] ∧ d = encProg (withPre G pre) ∧ SZ G
theorem ok_with_preload {ka : Nat} (F : Fun K "with_preload" "with_preload" s_with_preload f fd) (T : Gb mg) (hk : ka ≤ k) (c_as : Cal P w K mg base ka "as_tuples" (spP K (RAs 5))) : FnOk P w K mg base CX0 (k + 1) f fd ["program", "preload"] (spP K RWithPre) := by
  refine fn_P F sc_with_preload (fun H ds d h => ?_) (fun cdv A outer s H E ds d oo h => ?_)
  · obtain ⟨G, pre, rfl, _⟩ := h
    rfl
  · obtain ⟨G, pre, rfl, rfl, hz⟩ := h
    refine bs_set 0 oo (ee_call c_as oo hk (ea_cons (ee_var 0 rfl) ea_nil) (fun _ _ => ⟨rfl, flat_prog hz⟩)) ?_
    exact bs_ret (ee_tup (ea_cons (ee_ix (ee_var 0 rfl) ee_int rfl) (ea_cons (ee_tuple T.tuple (ee_var 1 rfl) (.inr rfl)) (ea_cons (ee_ix (ee_var 0 rfl) ee_int rfl) ea_nil))))

abbrev s_server : Stmt := top 48
theorem sc_server : FnScope ["program", "line", "use", "name", "version"] ["program", "line", "use"] (defScope s_server) := ⟨rfl, rfl, rfl, by decide +kernel, rfl, by decide +kernel, by decide +kernel⟩
def RServer : Hp → List D → D → Prop := fun _ ds d => ∃ (G : ProgD) (line : List S) (u : UseD), ds = [encProg G, .lst (line.map D.str), encUse u] ∧ d = encOptAns (server G line u) ∧ SZ G ∧ ∀ n ∈ line, n ∈ names G
theorem ok_server (F : Fun K "server" "server" s_server f fd) (C : Gk mg K) (c_version_of : Cal P w K mg base 2 "version_of" (spP K RVersion)) (c_lib_of : Cal P w K mg base 1 "lib_of" (spP K RLibOf)) : FnOk P w K mg base CX0 3 f fd ["program", "line", "use"] (spP K RServer) := by
  refine fn_P F sc_server (fun H ds d h => ?_) (fun cdv A outer s H E ds d oo h => ?_)
  · obtain ⟨G, line, u, rfl, _⟩ := h
    rfl
  · obtain ⟨G, line, u, rfl, rfl, hz, hsub⟩ := h
    have key : ∀ n ∈ line, ∃ l, libOf G n = some l ∧ l ∈ G.libs ∧ ansOf G u n = (versionM l u).map fun v => [sBound, n, v] := fun n hn => by
      obtain ⟨l, h1, h2, h3⟩ := libOf_some (hsub n hn)
      refine ⟨l, h1, h2, ?_⟩
      unfold ansOf
      rw [h1]
      show (match versionM l u with | some v => some [sBound, n, v] | none => none) = _
      cases versionM l u <;> rfl
    refine bs_for (ds := line.map D.str) (vs := [3]) (ρ' := fun d => [some (encProg G), some (.lst (line.map D.str)), some (encUse u), some d, none]) (srvF G u) oo PassesOwn.never (si_lst (ee_var 1 rfl)) (pg_name (i := 3) oo.nd rfl (Or.inl rfl)) (fun d hd => tg_name) (fun d hd => ?_) ?_
    · obtain ⟨n, hn, rfl⟩ := List.mem_map.mp hd
      obtain ⟨l, h1, h2, h3⟩ := key n hn
      refine bs_set 4 oo (ee_call c_version_of oo (by decide) (ea_cons (ee_call c_lib_of oo (by decide) (ea_cons (ee_var 0 rfl) (ea_cons (ee_var 3 rfl) ea_nil)) (fun _ _ => ⟨G, n, rfl, rfl, hz.libs⟩)) (ea_cons (ee_var 2 rfl) ea_nil)) (d := encOptS (versionM l u)) (fun _ _ => ⟨l, u, by rw [h1]; rfl, rfl, hz.defs l h2⟩)) ?_
      show BS _ _ _ _ (match (ansOf G u n).map encAns with | some r => Out.ret r | none => Out.nx _)
      rw [h3]
      cases hv : versionM l u with
      | none => exact bs_ifF (et_cmp od_notN (ee_var 4 rfl) ee_non) (bs_nil (.cons (.cons (.cons (.skip (.skip .nil))))))
      | some v => exact bs_ifR (et_cmp od_notN (ee_var 4 rfl) ee_non) (bs_ret (ee_tup (ea_cons (ee_gc C.BOUND) (ea_cons (ee_var 3 rfl) (ea_cons (ee_var 4 rfl) ea_nil)))))
    · rw [srvF_line]
      cases server G line u with
      | none => exact bs_ret ee_non
      | some a => rfl

abbrev s_doors_of : Stmt := top 49
theorem sc_doors_of : FnScope ["program", "name", "number"] ["program", "name"] (defScope s_doors_of) := ⟨rfl, rfl, rfl, by decide +kernel, rfl, by decide +kernel, by decide +kernel⟩
def RDoorsOf : Hp → List D → List D → Prop := fun _ ds es => ∃ (G : ProgD) (n : S), ds = [encProg G, .str n] ∧ es = (doorsOf G n).map (fun (i : Nat) => D.int (i : Int)) ∧ WF G ∧ SZ G
theorem ok_doors_of {kd : Nat} (F : Fun K "doors_of" "doors_of" s_doors_of f fd) (T : Gb mg) (hk : kd ≤ k) (c_door_row : Cal P w K mg base kd "door_row" (spN K RDoorRow)) : FnOk P w K mg base CX0 (k + 1) f fd ["program", "name"] (spN K RDoorsOf) := by
  refine fn_WN F sc_doors_of (fun H ds d h => ?_) (fun cdv A outer s H E vs ds es Q oo h hvs hQ => ?_)
  · obtain ⟨Q, n, rfl, _⟩ := h
    rfl
  · obtain ⟨G, n, rfl, rfl, hw, hz⟩ := h
    have hz1 := hz.doors
    refine ws_ret (we_en (en_lc oo (lc_mk (xs := List.range G.doors.length) (enc := fun (i : Nat) => D.int (i : Int)) (p := fun i => decide (n ∈ doorRow G i)) (f := fun (i : Nat) => D.int (i : Int)) (ρ' := fun (i : Nat) => [some (encProg G), some (.str n), some (.int (i : Int))]) [("number", 2)] (blkOk_by rfl)
      (si_range T.range (ee_len T.len (ee_ix (ee_var 0 rfl) ee_int rfl) len_map) (by omega)) (fun _ _ _ _ _ => pg_name (i := 2) oo.nd rfl (Or.inl rfl)) (fun x hx => tg_name)
      (fun _ _ _ _ _ x hx => ets_one (et_cmp (od_inS oo.blk (xs := doorRow G x)) (ee_var 1 rfl) (ee_callN c_door_row oo.blk hk (ea_cons (ee_var 0 rfl) (ea_cons (ee_var 2 rfl) ea_nil)) (fun _ _ => ⟨G, x, rfl, rfl, hw, hz, List.mem_range.mp hx⟩)))) (fun _ _ _ _ _ x hx hp => (ee_var 2 rfl)) (own1 rfl) (fun x hx => rfl) (by rw [List.length_range]; exact sz8 hz1))) (ρ := startR ["program", "name", "number"] [encProg G, .str n]) (EL.start hvs) fun l ws H2 hl s2 h2 hd => hQ l ws H2 hl s2 h2 hd)

abbrev s_is_name : Stmt := top 10
theorem sc_is_name : FnScope ["thing", "sign"] ["thing"] (defScope s_is_name) := ⟨rfl, rfl, rfl, by decide +kernel, rfl, by decide +kernel, by decide +kernel⟩
def RIsName : Hp → List D → D → Prop := fun _ ds d => ∃ (z : S), ds = [.str z] ∧ d = .bl true ∧ isNameM z = true
theorem ok_is_name (F : Fun K "is_name" "is_name" s_is_name f fd) (T : Gb mg) (C : Gk mg K) : FnOk P w K mg base CX0 1 f fd ["thing"] (spP K RIsName) := by
  refine fn_P F sc_is_name (fun H ds d h => ?_) (fun cdv A outer s H E ds d oo h => ?_)
  · obtain ⟨z, rfl, _⟩ := h
    rfl
  · obtain ⟨z, rfl, rfl, hz⟩ := h
    unfold isNameM at hz
    rw [Bool.and_eq_true] at hz
    obtain ⟨h1, h2⟩ := hz
    have h1 := of_decide_eq_true h1
    refine bs_ifF (et_is ?_ (et_or (et_not (et_val (ee_isi1 T.isinstance T.str (ee_var 0 rfl) rfl (T := "str") (z := true) (by decide +kernel) (by decide +kernel)))) fun _ => (et_not (et_chain op_lt op_le ee_int (ee_lenStr T.len (ee_var 0 rfl) (Nat.le_of_lt (sz8 h1.2))) (ee_gc C.MOST_LETTERS))))) ?_
    · rw [decide_eq_true (show (0 : Int) < (z.length : Nat) by omega), decide_eq_true (show ((z.length : Nat) : Int) ≤ 8 by omega)]
      rfl
    · have e : (z.cps.toList.map fun c => !(Builtin.Str.occurrences sLetters ⟨#[c]⟩ 0 sLetters.length 1).isEmpty).all id = true := by
        rw [List.all_map]
        exact h2
      refine bs_retIs (ee_all oo T.all (bs := z.cps.toList.map fun c => !(Builtin.Str.occurrences sLetters ⟨#[c]⟩ 0 sLetters.length 1).isEmpty) (ee_lc oo (lc_is (by rw [List.filter_eq_self.mpr (fun _ _ => rfl), List.map_map]; rfl) (lc_mk (xs := z.cps.toList) (enc := fun c => .str ⟨#[c]⟩) (p := fun _ => true) (f := fun c => .bl (!(Builtin.Str.occurrences sLetters ⟨#[c]⟩ 0 sLetters.length 1).isEmpty)) (ρ' := fun c => [some (.str z), some (.str ⟨#[c]⟩)]) [("sign", 1)] (blkOk_by rfl) (si_str (ee_var 0 rfl))
        (fun _ _ _ _ _ => pg_name (i := 1) oo.nd rfl (Or.inl rfl)) (fun x hx => tg_name) (fun _ _ _ _ _ x hx => ets_nil) (fun _ _ _ _ _ x hx hp => (ee_cmp od_inText (ee_var 1 rfl) (ee_gc C.LETTERS))) (own1 rfl) (fun x hx => rfl) (by
          have : z.cps.toList.length = z.length := by simp [Str.length]
          rw [this]
          exact sz8 h1.2))))) (by rw [e])

abbrev s_are_names : Stmt := top 11
theorem sc_are_names : FnScope ["thing", "name"] ["thing"] (defScope s_are_names) := ⟨rfl, rfl, rfl, by decide +kernel, rfl, by decide +kernel, by decide +kernel⟩
def RAreNames : Hp → List D → D → Prop := fun _ ds d => ∃ (zs : List S), ds = [.tup (zs.map D.str)] ∧ d = .bl true ∧ (∀ z ∈ zs, isNameM z = true) ∧ zs.Nodup ∧ zs.length ≤ 64
theorem ok_are_names (F : Fun K "are_names" "are_names" s_are_names f fd) (T : Gb mg) (c_is_name : Cal P w K mg base 1 "is_name" (spP K RIsName)) : FnOk P w K mg base CX0 2 f fd ["thing"] (spP K RAreNames) := by
  refine fn_P F sc_are_names (fun H ds d h => ?_) (fun cdv A outer s H E ds d oo h => ?_)
  · obtain ⟨z, rfl, _⟩ := h
    rfl
  · obtain ⟨zs, rfl, rfl, hz, hnd, hl⟩ := h
    refine bs_ifF (et_is ?_ (et_or (et_not (et_val (ee_isi1 T.isinstance T.tuple (ee_var 0 rfl) rfl (T := "tuple") (z := true) (by decide +kernel) (by decide +kernel)))) fun _ => (et_not (et_val (ee_all oo T.all (bs := zs.map fun _ => true) (ee_lc oo (lc_is (by rw [List.filter_eq_self.mpr (fun _ _ => rfl), List.map_map]; rfl) (lc_mk (xs := zs) (enc := D.str) (p := fun _ => true) (f := fun _ => .bl true) (ρ' := fun z => [some (.tup (zs.map D.str)), some (.str z)]) [("name", 1)] (blkOk_by rfl) (si_tup (ee_var 0 rfl))
      (fun _ _ _ _ _ => pg_name (i := 1) oo.nd rfl (Or.inl rfl)) (fun x hx => tg_name) (fun _ _ _ _ _ x hx => ets_nil) (fun _ _ _ _ _ x hx hp => (ee_call c_is_name oo.blk (by decide) (ea_cons (ee_var 1 rfl) ea_nil) (fun _ _ => ⟨x, rfl, rfl, hz x hx⟩))) (own1 rfl) (fun x hx => rfl) (sz64 hl))))))))) ?_
    · have : (zs.map fun _ => true).all id = true := by simp
      rw [this]
      rfl
    · exact bs_retIs (ee_cmp od_eqI (ee_lenSet oo T.len T.set (ee_var 0 rfl) hnd (by unfold scanBound; omega)) (ee_len T.len (ee_var 0 rfl) len_map)) (by simp)

abbrev s_is_preload : Stmt := top 53
theorem sc_is_preload : FnScope ["program", "thing", "name"] ["program", "thing"] (defScope s_is_preload) := ⟨rfl, rfl, rfl, by decide +kernel, rfl, by decide +kernel, by decide +kernel⟩
def RIsPreload : Hp → List D → D → Prop := fun _ ds d => ∃ (G : ProgD) (zs : List S), ds = [encProg G, .tup (zs.map D.str)] ∧ d = .bl true ∧ (∀ z ∈ zs, isNameM z = true ∧ z ∈ others G) ∧ zs.Nodup ∧ zs.length ≤ 64 ∧ SZ G
theorem ok_is_preload (F : Fun K "is_preload" "is_preload" s_is_preload f fd) (T : Gb mg) (c_are_names : Cal P w K mg base 2 "are_names" (spP K RAreNames)) (c_others_of : Cal P w K mg base 1 "others_of" (spN K ROthers)) : FnOk P w K mg base CX0 3 f fd ["program", "thing"] (spP K RIsPreload) := by
  refine fn_P F sc_is_preload (fun H ds d h => ?_) (fun cdv A outer s H E ds d oo h => ?_)
  · obtain ⟨G, z, rfl, _⟩ := h
    rfl
  · obtain ⟨G, zs, rfl, rfl, hz, hnd, hl, hs⟩ := h
    refine bs_retIs (ee_and (ee_call c_are_names oo (by decide) (ea_cons (ee_var 1 rfl) ea_nil) (fun _ _ => ⟨zs, rfl, rfl, fun z h => (hz z h).1, hnd, hl⟩)) fun _ => (ee_all oo T.all (bs := zs.map fun _ => true) (ee_lc oo (lc_is (by rw [List.filter_eq_self.mpr (fun _ _ => rfl), List.map_map]; exact List.map_congr_left fun z h => by show D.bl (decide (z ∈ others G)) = D.bl true; rw [decide_eq_true (hz z h).2]) (lc_mk (xs := zs) (enc := D.str) (p := fun _ => true) (f := fun z => .bl (decide (z ∈ others G))) (ρ' := fun z => [some (encProg G), some (.tup (zs.map D.str)), some (.str z)]) [("name", 2)] (blkOk_by rfl) (si_tup (ee_var 1 rfl))
      (fun _ _ _ _ _ => pg_name (i := 2) oo.nd rfl (Or.inl rfl)) (fun x hx => tg_name) (fun _ _ _ _ _ x hx => ets_nil) (fun _ _ _ _ _ x hx hp => (ee_cmp (od_inS oo.blk (xs := others G)) (ee_var 2 rfl) (ee_callN c_others_of oo.blk (by decide) (ea_cons (ee_var 0 rfl) ea_nil) (fun _ _ => ⟨G, rfl, rfl, hs⟩)))) (own1 rfl) (fun x hx => rfl) (sz64 hl)))))) (by simp)

abbrev s_looked : Stmt := top 52
theorem sc_looked : FnScope ["program", "wanted", "name", "i", "answer"] ["program", "wanted"] (defScope s_looked) := ⟨rfl, rfl, rfl, by decide +kernel, rfl, by decide +kernel, by decide +kernel⟩
def RLooked : Hp → List D → D → Prop := fun _ ds d => ∃ (G : ProgD) (ws : List WantD), ds = [encProg G, .tup (ws.map encWant)] ∧ d = .tup [encProg G, .tup (ws.map encWant)] ∧ SZ G ∧ ws.length ≤ 64 ∧ ∀ w ∈ ws, WOk G w
theorem ok_looked {ka kb : Nat} (F : Fun K "looked" "looked" s_looked f fd) (hk : ka ≤ k ∧ kb ≤ k ∧ 3 ≤ k) (c_as : Cal P w K mg base ka "as_tuples" (spP K (RAs 5))) (c_as3 : Cal P w K mg base kb "as_tuples" (spP K (RAs 3))) (c_use_at : Cal P w K mg base 3 "use_at" (spP K RUseAt)) : FnOk P w K mg base CX0 (k + 1) f fd ["program", "wanted"] (spP K RLooked) := by
  refine fn_P F sc_looked (fun H ds d h => ?_) (fun cdv A outer s H E ds d oo h => ?_)
  · obtain ⟨G, z, rfl, _⟩ := h
    rfl
  · obtain ⟨G, ws, rfl, rfl, hz, hl, hw⟩ := h
    refine bs_par 0 1 oo (ea_cons (ee_call c_as oo hk.1 (ea_cons (ee_var 0 rfl) ea_nil) (fun _ _ => ⟨rfl, flat_prog hz⟩)) (ea_cons (ee_call c_as3 oo hk.2.1 (ea_cons (ee_var 1 rfl) ea_nil) (fun _ _ => ⟨rfl, flat_wants hl hw⟩)) ea_nil)) ?_
    have hn : (ws.map encWant).findSome? (fun _ => (none : Option D)) = none := List.findSome?_eq_none_iff.mpr fun _ _ => rfl
    refine bs_for (ds := ws.map encWant) (vs := [2, 3, 4]) (ρ' := fun d => match d with
      | .tup [a, b, c] => [some (encProg G), some (.tup (ws.map encWant)), some a, some b, some c]
      | _ => []) (fun _ => none) oo PassesOwn.never (si_tup (ee_var 1 rfl)) (pg_tup oo.calm (pgs_cons (pg_name (i := 2) oo.nd rfl (Or.inl rfl)) (pgs_cons (pg_name (i := 3) oo.nd rfl (Or.inl rfl)) (pgs_cons (pg_name (i := 4) oo.nd rfl (Or.inl rfl)) pgs_nil)))) (fun d hd => ?_) (fun d hd => ?_) ?_
    · obtain ⟨w, hw', rfl⟩ := List.mem_map.mp hd
      exact tg_three
    · obtain ⟨w', hw', rfl⟩ := List.mem_map.mp hd
      obtain ⟨l, u, h1, h2⟩ := (hw w' hw').use
      exact bs_expr (ee_call c_use_at oo hk.2.2 (ea_cons (ee_var 0 rfl) (ea_cons (ee_var 2 rfl) (ea_cons (ee_var 3 rfl) ea_nil))) (fun _ _ => ⟨G, w'.who, l, w'.i, u, rfl, rfl, h1, h2, hz.libs⟩)) (bs_nil (.cons (.cons (.skip (.skip (.skip .nil))))))
    · rw [hn]
      exact bs_ret (ee_tup (ea_cons (ee_var 0 rfl) (ea_cons (ee_var 1 rfl) ea_nil)))
end
end K74

set_option Elab.async false
set_option linter.all false
set_option maxRecDepth 100000
set_option maxHeartbeats 4000000
/-! K74.KA5: rows_of_names, names_in, rows_to_public. -/
namespace K74
open PySem PySem.Spec PyProof.Rows L2

theorem rowsM_len {ns : List S} {m : Nat} : ∀ l ∈ rowsM ns m, l.length = m := by
  induction m with
  | zero => intro l hl; simp [rowsM] at hl; subst hl; rfl
  | succ m ih =>
    intro l hl
    unfold rowsM at hl
    obtain ⟨l0, h0, h1⟩ := List.mem_flatMap.mp hl
    obtain ⟨n, hn, rfl⟩ := List.mem_map.mp h1
    rw [List.length_append, ih l0 h0]
    rfl
theorem rowsM_count {ns : List S} {m : Nat} : (rowsM ns m).length ≤ ns.length ^ m := by
  induction m with
  | zero => simp [rowsM]
  | succ m ih =>
    unfold rowsM
    rw [List.length_flatMap, Nat.pow_succ]
    refine Nat.le_trans ?_ (Nat.mul_le_mul_right _ ih)
    generalize rowsM ns m = xs
    induction xs with
    | nil => simp
    | cons x r ihr =>
      rw [List.map_cons, List.sum_cons, List.length_cons, Nat.succ_mul, Nat.add_comm]
      exact Nat.add_le_add ihr (by rw [List.length_map]; exact List.length_filter_le ..)
theorem si_is {X : Cx} {tg e : Expr} {B : Hp} {ρ : Rho} {ds ds' : List D} (q : ds = ds') (h : SI X tg e B ρ ds) : SI X tg e B ρ ds' := q ▸ h
def encLine (l : List S) : D := .tup (l.map D.str)

section
variable {P : Program} {w : World} {K : PySem.W.Frag} {mg : Str → Option Value} {base : Heap} {f : Addr} {fd : FuncData} {k : Nat}
abbrev s_rows_of_names : Stmt := top 55
theorem sc_rows_of_names : FnScope ["names", "many", "found", "turn", "line", "name"] ["names", "many"] (defScope s_rows_of_names) := ⟨rfl, rfl, rfl, by decide +kernel, rfl, by decide +kernel, by decide +kernel⟩
def RRowsOf : Hp → List D → List D → Prop := fun _ ds es => ∃ (ns : List S) (m : Nat), ds = [.lst (ns.map D.str), .int (m : Nat)] ∧ es = (rowsM ns m).map encLine ∧ ns.length ≤ 4 ∧ m ≤ 5
theorem ok_rows_of_names (F : Fun K "rows_of_names" "rows_of_names" s_rows_of_names f fd) (T : Gb mg) : FnOk P w K mg base CX0 1 f fd ["names", "many"] (spN K RRowsOf) := by
  refine fn_WN F sc_rows_of_names (fun H ds d h => ?_) (fun cdv A outer s H E vs ds es Q oo h hvs hQ => ?_)
  · obtain ⟨n, m, rfl, _⟩ := h
    rfl
  · obtain ⟨ns, m, rfl, rfl, hn, hm⟩ := h
    obtain ⟨v1, v2, rfl, d1, d2⟩ : ∃ v1 v2, vs = [v1, v2] ∧ Dat K H v1 (.lst (ns.map D.str)) ∧ Dat K H v2 (.int (m : Nat)) := by
      cases hvs with | cons h1 r => cases r with | cons h2 r => cases r; exact ⟨_, _, rfl, h1, h2⟩
    cases d2
    have el : ∀ {H' : Hp} {xs : List (List S)} {l : Addr} {ws : List V} (x3 x4 x5 : Option V), Same H H' → H' l = some (.lst ws) → DatAll K H' ws (xs.map encLine) → EL K H' [some (.lst (ns.map D.str)), some (.int (m : Nat)), some (.lst (xs.map encLine)), none, none, none] [some v1, some (.int (m : Nat)), some (.ref l), x3, x4, x5] := fun x3 x4 x5 s' hl hd =>
      .cons (d1.mono s') (.cons (.int _) (.cons (.lst hl hd) (.skip (.skip (.skip .nil)))))
    -- found = [()]
    refine ws_set 2 oo (we_of (pe_lst (pa_cons (pe_tup pa_nil) pa_nil)) ⟨Nat.zero_le _, fun pt hpt => ⟨by show 1 ≤ sizeLine; decide, fun pl hpl => ?_⟩⟩)
    let Pv : Nat → L2.St → Hp → Prop := fun i σ H' => ∃ (x3 x4 x5 : Option V) (l : Addr) (ws : List V), σ = [some v1, some (.int (m : Nat)), some (.ref l), x3, x4, x5] ∧ Same H H' ∧ H l = none ∧ H' l = some (.lst ws) ∧ DatAll K H' ws ((rowsM ns i).map encLine)
    refine ws_forR oo PassesOwn.never T.range (we_var 1 rfl ⟨m, Pv, rfl, by omega, ?_, ?_, ?_⟩)
    · refine ⟨none, none, none, pl, [.ref pt], rfl, (Same.new hpt).trans (Same.new hpl), (Same.new hpt).free hpl, upd_same, .cons (.tup (vs := []) (.inl (.inl ?_)) .nil) .nil⟩
      rw [upd_ne (ne_of_none upd_same hpl)]
      exact upd_same
    · rintro i σ H1 hi ⟨x3, x4, x5, l, ws, rfl, s1, hl0, hl1, hd1⟩
      refine wg_name 3 oo ?_
      have hc : (rowsM ns i).length ≤ 4 ^ 4 := Nat.le_trans rowsM_count (Nat.le_trans (Nat.pow_le_pow_left hn i) (Nat.pow_le_pow_right (by decide) (by omega)))
      refine ws_setLc2 2 oo (lc2_mk (xs := rowsM ns i) (enc := encLine) (p := fun _ => true) (ys := fun _ => ns) (enc1 := fun _ n => .str n) (p1 := fun l n => !decide (n ∈ l)) (f := fun l n => encLine (l ++ [n])) (blkOk_by rfl) (by decide) (si_lst (ee_var 2 rfl)) (fun _ _ _ _ _ => pg_name (i := 4) oo.nd rfl (Or.inl rfl)) (fun _ _ _ _ _ x hx => ets_nil) (fun _ _ _ _ _ => el1_var 0 fun _ _ => rfl)
        (fun _ _ _ _ _ => pg_name (i := 5) oo.nd rfl (Or.inl rfl)) (fun _ _ _ _ _ x y hx hp hy => ets_one (et_cmp (od_notInS oo.blk (xs := x)) (ee_var 5 rfl) (ee_var 4 rfl)))
        (fun _ _ _ _ _ x y hx hp hy hq => ee_is (by unfold encLine; rw [List.map_append]; rfl) (ee_op (od_addT (xs := x.map D.str) (ys := [.str y]) (by
          rw [List.length_map, rowsM_len x hx]
          exact Nat.le_trans (by simp; omega : _ ≤ 6) (by decide))) (ee_var 4 rfl) (ee_tup (ea_cons (ee_var 5 rfl) ea_nil)))) ⟨.inl rfl, .inl rfl⟩ (fun x hx => imms_strs) (fun x hx y hy => rfl) (fun x hx y hy => imms_strs) (by
          rw [List.filter_eq_self.mpr (fun _ _ => rfl), List.length_flatMap]
          have : ((rowsM ns i).map fun _ => ns.length).sum ≤ 4 ^ 4 * 4 := by
            rw [List.map_const', List.sum_replicate_nat]
            exact Nat.mul_le_mul hc hn
          exact Nat.lt_of_le_of_lt this (by decide))) (el _ x4 x5 s1 hl1 hd1) fun l2 ws2 H2 hl2 s2 h2 hd2 => ws_nil ⟨_, x4, x5, l2, ws2, rfl, s1.trans s2, s1.free hl2, h2, ?_⟩
      have e : (rowsM ns (i + 1)).map encLine = ((rowsM ns i).filter fun _ => true).flatMap fun x => (ns.filter fun n => !decide (n ∈ x)).map fun n => encLine (x ++ [n]) := by
        rw [List.filter_eq_self.mpr (fun _ _ => rfl)]
        show ((rowsM ns i).flatMap fun l => (ns.filter fun n => !decide (n ∈ l)).map fun n => l ++ [n]).map encLine = _
        rw [List.map_flatMap]
        congr 1
        funext x
        rw [List.map_map]
        rfl
      rw [e]
      exact hd2
    · rintro σ H1 ⟨x3, x4, x5, l, ws, rfl, s1, hl0, hl1, hd1⟩
      exact ws_ret (we_var 2 rfl (hQ l ws H1 hl0 s1 hl1 hd1))

abbrev s_names_in : Stmt := top 56
theorem sc_names_in : FnScope ["program", "wanted", "names", "name", "i", "answer"] ["program", "wanted"] (defScope s_names_in) := ⟨rfl, rfl, rfl, by decide +kernel, rfl, by decide +kernel, by decide +kernel⟩
def RNamesIn : Hp → List D → List D → Prop := fun _ ds es => ∃ (G : ProgD) (ws : List WantD), ds = [encProg G, .tup (ws.map encWant)] ∧ es = (namesIn G ws).map D.str ∧ SZ G ∧ ws.length ≤ 64 ∧ ∀ w ∈ ws, AnsOk w.ans
theorem ok_names_in (F : Fun K "names_in" "names_in" s_names_in f fd) (C : Gk mg K) (c_others_of : Cal P w K mg base 1 "others_of" (spN K ROthers)) : FnOk P w K mg base CX0 2 f fd ["program", "wanted"] (spN K RNamesIn) := by
  refine fn_WN F sc_names_in (fun H ds d h => ?_) (fun cdv A outer s H E vs ds es Q oo h hvs hQ => ?_)
  · obtain ⟨n, m, rfl, _⟩ := h
    rfl
  · obtain ⟨G, ws, rfl, rfl, hz, hl, hok⟩ := h
    obtain ⟨v1, v2, rfl, d1, d2⟩ : ∃ v1 v2, vs = [v1, v2] ∧ Dat K H v1 (encProg G) ∧ Dat K H v2 (.tup (ws.map encWant)) := by
      cases hvs with | cons h1 r => cases r with | cons h2 r => cases r; exact ⟨_, _, rfl, h1, h2⟩
    have hz1 := hz.libs
    let r0 : WantD → Rho := fun w => [some (encProg G), some (.tup (ws.map encWant)), none, some (.str w.who), some (.int (w.i : Int)), some (encAns w.ans)]
    have tg : ∀ x ∈ ws, TgOk K H (gTup K 3 (gCons (gName 3) (gCons (gName 4) (gCons (gName 5) gNil)))) [3, 4, 5] [some (encProg G), some (.tup (ws.map encWant)), none, none, none, none] (encWant x) (r0 x) := fun x hx => tg_three
    refine ws_set 2 oo (we_ee (ρ := startR ["program", "wanted", "names", "name", "i", "answer"] [encProg G, .tup (ws.map encWant)]) (ee_op (od_addL (xs := (ws.map (·.who)).map D.str) (ys := ((ws.filter fun w => decide (w.ans.head? = some sBound)).map fun w => w.ans.getD 1 sE).map D.str) (by
        have h1 := List.length_filter_le (fun w : WantD => decide (w.ans.head? = some sBound)) ws
        simp only [List.length_map]
        exact Nat.le_trans (by omega : _ ≤ 128) (by decide)))
      (ee_lc oo (lc_is (by rw [List.filter_eq_self.mpr (fun _ _ => rfl), List.map_map]; rfl) (lc_mk (xs := ws) (enc := encWant) (p := fun _ => true) (f := fun w => .str w.who) (ρ' := r0) [("name", 3), ("i", 4), ("answer", 5)] (blkOk_by rfl) (si_tup (ee_var 1 rfl))
        (fun _ _ _ _ _ => pg_tup oo.blk.calm (pgs_cons (pg_name (i := 3) oo.nd rfl (Or.inl rfl)) (pgs_cons (pg_name (i := 4) oo.nd rfl (Or.inl rfl)) (pgs_cons (pg_name (i := 5) oo.nd rfl (Or.inl rfl)) pgs_nil)))) tg (fun _ _ _ _ _ x hx => ets_nil) (fun _ _ _ _ _ x hx hp => (ee_var 3 rfl)) (own3 rfl rfl rfl) (fun x hx => rfl) (sz64 hl))))
      (ee_lc oo (lc_is (by rw [List.map_map]; exact List.map_congr_left fun _ _ => rfl) (lc_mk (xs := ws) (enc := encWant) (p := fun w => decide (w.ans.head? = some sBound)) (f := fun w => .str (w.ans.getD 1 sE)) (ρ' := r0) [("name", 3), ("i", 4), ("answer", 5)] (blkOk_by rfl) (si_tup (ee_var 1 rfl))
        (fun _ _ _ _ _ => pg_tup oo.blk.calm (pgs_cons (pg_name (i := 3) oo.nd rfl (Or.inl rfl)) (pgs_cons (pg_name (i := 4) oo.nd rfl (Or.inl rfl)) (pgs_cons (pg_name (i := 5) oo.nd rfl (Or.inl rfl)) pgs_nil)))) tg
        (fun _ _ _ _ _ x hx => ets_one (by
          have key : ∀ {Y : Cx} {b : Expr} {p2 p3 p4 : Pos} {j : Nat} {a : Expr}, EE Y a H (r0 x) (encAns x.ans) → EE Y b H (r0 x) (.str sBound) → behindInMarks .Eq b = false → ET Y (.Compare (.Subscript a (.Constant (.int 0) j p2) p3) [.Eq] [b] p4) H (r0 x) (decide (x.ans.head? = some sBound)) := fun ha hb hm => by
            rcases hok x hx with ⟨n, v, e⟩ | e | e
            · rw [e] at ha ⊢
              exact et_is (by rfl) (et_cmp (od_eqS (x := sBound) (y := sBound)) (ee_ix ha ee_int rfl) hb hm)
            · rw [e] at ha ⊢
              exact et_is (by decide +kernel) (et_cmp (od_eqS (x := sNobody) (y := sBound)) (ee_ix ha ee_int rfl) hb hm)
            · rw [e] at ha ⊢
              exact et_is (by decide +kernel) (et_cmp (od_eqS (x := sLost) (y := sBound)) (ee_ix ha ee_int rfl) hb hm)
          exact key (ee_var 5 rfl) (ee_gc C.BOUND) (nobehind _ (by decide) (by decide)))) (fun _ _ _ _ _ x hx hp => ee_ix (da := encAns x.ans) (i := ((1 : Nat) : Int)) (ee_var 5 rfl) ee_int (by
          have hp' := of_decide_eq_true hp
          rcases hok x hx with ⟨n, v, e⟩ | e | e
          · rw [e]
            rfl
          · rw [e] at hp'
            exact absurd (Option.some.inj hp') (by decide +kernel)
          · rw [e] at hp'
            exact absurd (Option.some.inj hp') (by decide +kernel))) (own3 rfl rfl rfl) (fun x hx => rfl) (sz64 hl))))) (EL.start hvs) fun u1 H1 s1 du1 => ?_)
    have e1 : (ws.map (·.who)).map D.str ++ ((ws.filter fun w => decide (w.ans.head? = some sBound)).map fun w => w.ans.getD 1 sE).map D.str = (wantNames ws).map D.str := by
      unfold wantNames
      rw [List.map_append]
    rw [e1] at du1
    have hol : (others G).length ≤ 8 := by rw [others_len]; omega
    refine ws_ret (we_en (en_lc oo (lc_mk (xs := others G) (enc := D.str) (p := fun n => decide (n ∈ wantNames ws)) (f := D.str) (ρ' := fun n => [some (encProg G), none, some (.lst ((wantNames ws).map D.str)), some (.str n)]) [("name", 3)] (blkOk_by rfl) (si_lst (ee_callN c_others_of oo (by decide) (ea_cons (ee_var 0 rfl) ea_nil) (fun _ _ => ⟨G, rfl, rfl, hz⟩))) (fun _ _ _ _ _ => pg_name (i := 3) oo.nd rfl (Or.inl rfl)) (fun x hx => tg_name)
      (fun _ _ _ _ _ x hx => ets_one (et_cmp (od_inS oo.blk (xs := wantNames ws)) (ee_var 3 rfl) (ee_var 2 rfl))) (fun _ _ _ _ _ x hx hp => (ee_var 3 rfl)) (own1 rfl) (fun x hx => rfl) (sz8 hol))) (ρ := [some (encProg G), none, some (.lst ((wantNames ws).map D.str)), none]) (.cons (d1.mono s1) (.skip (.cons du1 (.skip .nil)))) fun l ws' H2 hl s2 h2 hd => hQ l ws' H2 (s1.free hl) (s1.trans s2) h2 (by unfold namesIn; exact hd))
abbrev s_rows_to_public : Stmt := top 50
theorem sc_rows_to_public : FnScope ["program", "numbers", "number", "name", "door"] ["program"] (defScope s_rows_to_public) := ⟨rfl, rfl, rfl, by decide +kernel, rfl, by decide +kernel, by decide +kernel⟩
def RRowsPub : Hp → List D → List D → Prop := fun _ ds es => ∃ (G : ProgD), ds = [encProg G] ∧ es = (rowsToPublic G).map D.str ∧ WF G ∧ SZ G
theorem ok_rows_to_public {kd : Nat} (F : Fun K "rows_to_public" "rows_to_public" s_rows_to_public f fd) (T : Gb mg) (C : Gk mg K) (hk : kd ≤ k) (c_door_row : Cal P w K mg base kd "door_row" (spN K RDoorRow)) : FnOk P w K mg base CX0 (k + 1) f fd ["program"] (spN K RRowsPub) := by
  refine fn_WN F sc_rows_to_public (fun H ds d h => ?_) (fun cdv A outer s H E vs ds es Q oo h hvs hQ => ?_)
  · obtain ⟨n, rfl, _⟩ := h
    rfl
  · obtain ⟨G, rfl, rfl, hw, hz⟩ := h
    obtain ⟨v1, rfl, d1⟩ : ∃ v1, vs = [v1] ∧ Dat K H v1 (encProg G) := by
      cases hvs with | cons h1 r => cases r; exact ⟨_, rfl, h1⟩
    have hz1 := hz.doors
    have hget : ∀ i, i < G.doors.length → ∃ dd, G.doors[i]? = some dd ∧ (G.doors.map encPair).getD i .non = encPair dd ∧ modeOf G i = dd.2 := fun i hi => by
      have hdo : G.doors[i]? = some G.doors[i] := List.getElem?_eq_getElem hi
      refine ⟨_, hdo, ?_, ?_⟩
      · rw [List.getD_eq_getElem?_getD, List.getElem?_map, hdo]; rfl
      · unfold modeOf; rw [hdo]
    refine ws_setLc 1 oo (lc_mk (xs := List.range G.doors.length) (enc := fun i => .tup [.int (i : Nat), (G.doors.map encPair).getD i .non]) (p := fun i => decide (modeOf G i = sGlobal)) (f := fun (i : Nat) => .int (i : Int)) (ρ' := fun (i : Nat) => [some (encProg G), none, some (.int (i : Int)), none, some ((G.doors.map encPair).getD i .non)]) [("number", 2), ("door", 4)] (blkOk_by rfl)
      (si_is (by rw [List.length_map]) (si_enum T.enumerate (ee_ix (da := encProg G) (d := .tup (G.doors.map encPair)) (ee_var 0 rfl) ee_int rfl))) (fun _ _ _ _ _ => pg_tup oo.blk.calm (pgs_cons (pg_name (i := 2) oo.nd rfl (Or.inl rfl)) (pgs_cons (pg_name (i := 4) oo.nd rfl (Or.inl rfl)) pgs_nil))) (fun x hx => tg_two)
      (fun _ _ _ _ _ x hx => ets_one (by
        obtain ⟨dd, h1, h2, h3⟩ := hget x (List.mem_range.mp hx)
        rw [h2, h3]
        exact et_cmp od_eqS (ee_ix (ee_var 4 rfl) ee_int rfl) (ee_gc C.GLOBAL))) (fun _ _ _ _ _ x hx hp => (ee_var 2 rfl)) (own2 rfl rfl) (fun x hx => rfl) (by rw [List.length_range]; exact sz8 hz1)) (EL.start hvs) fun l ws H1 hl1 s1 h1 hd1 => ?_
    have hgl : ∀ x ∈ globals G, x < G.doors.length := fun x hx => List.mem_range.mp (List.mem_filter.mp hx).1
    have hglen : (globals G).length ≤ 8 := by
      have := List.length_filter_le (fun k => decide (modeOf G k = sGlobal)) (List.range G.doors.length)
      rw [List.length_range] at this
      unfold globals
      omega
    have hrl : ∀ x ∈ globals G, (doorRow G x).length ≤ 8 := fun x hx => by
      obtain ⟨dd, h1, _⟩ := hget x (hgl x hx)
      have : doorRow G x = rowM G [dd.1] := by unfold doorRow; rw [h1]
      rw [this]
      have h2 := row_len hw (ns := [dd.1]) fun z hz => by
        have : z = dd.1 := by simpa using hz
        subst this
        exact hw.doors dd (List.mem_of_getElem? h1)
      have := hz.libs
      omega
    refine ws_ret (we_en (en_lc2 oo (lc2_mk (xs := globals G) (enc := fun (i : Nat) => .int (i : Int)) (p := fun _ => true) (ys := fun i => doorRow G i) (enc1 := fun _ n => .str n) (p1 := fun _ _ => true) (f := fun _ n => .str n) (blkOk_by rfl) (by decide) (si_lst (ee_var 1 rfl)) (fun _ _ _ _ _ => pg_name (i := 2) oo.nd rfl (Or.inl rfl)) (fun _ _ _ _ _ x hx => ets_nil)
      (fun _ _ _ _ _ => el1_new fun x hx => en_call c_door_row oo.blk hk (ea_cons (ee_var 0 rfl) (ea_cons (ee_var 2 rfl) ea_nil)) (fun _ _ => ⟨G, x, rfl, rfl, hw, hz, hgl x hx.1⟩)) (fun _ _ _ _ _ => pg_name (i := 3) oo.nd rfl (Or.inl rfl)) (fun _ _ _ _ _ x y hx hp hy => ets_nil) (fun _ _ _ _ _ x y hx hp hy hq => (ee_var 3 rfl)) ⟨.inl rfl, .inl rfl⟩ (fun x hx => rfl) (fun x hx y hy => rfl) (fun x hx y hy => rfl) (by
        rw [List.filter_eq_self.mpr (fun _ _ => rfl), List.length_flatMap]
        have : ∀ xs : List Nat, (∀ x ∈ xs, (doorRow G x).length ≤ 8) → (xs.map fun x => (doorRow G x).length).sum ≤ xs.length * 8 := fun xs hx => by
          induction xs with
          | nil => simp
          | cons x r ih =>
            rw [List.map_cons, List.sum_cons, List.length_cons, Nat.succ_mul, Nat.add_comm]
            exact Nat.add_le_add (ih fun y hy => hx y (List.mem_cons_of_mem _ hy)) (hx x List.mem_cons_self)
        have := this (globals G) hrl
        exact Nat.lt_of_le_of_lt (by omega : _ ≤ 64) (by decide)))) (ρ := [some (encProg G), some (.lst ((globals G).map fun (i : Nat) => D.int (i : Int))), none, none, none]) (.cons (d1.mono s1) (.cons (.lst h1 hd1) (.skip (.skip (.skip .nil))))) fun l ws' H2 hl s2 h2 hd => hQ l ws' H2 (s1.free hl) (s1.trans s2) h2 ?_)
    have e : (rowsToPublic G).map D.str = ((globals G).filter fun _ => true).flatMap fun x => ((doorRow G x).filter fun _ => true).map fun n => D.str n := by
      rw [List.filter_eq_self.mpr (fun _ _ => rfl)]
      unfold rowsToPublic
      rw [List.map_flatMap]
      congr 1
      funext x
      rw [List.filter_eq_self.mpr (fun _ _ => rfl)]
    rw [e]
    exact hd
end
end K74

set_option Elab.async false
set_option linter.all false
set_option maxRecDepth 100000
set_option maxHeartbeats 4000000
/-! K74.KP0: dicts: a comprehension on one line, update, the names that are here. -/
namespace K74
open PySem PySem.Spec PyProof.Rows L2

section
variable {X : Cx}
/-- name = {..} on one line, the name a local (as HandS.Comp.ps_setLc) -/
theorem ps_setDc {i : Nat} {y : Str} {py : Pos} {kx vx tg iter : Expr} {ifs : List Expr} {scope : Scope} {own : List (Str × Nat)} {pos spos : Pos} {wi : TI} {g : TG} {tt : TT} {tk tv : TE} (hc : X.calm = true) (hN : X.N.Nodup) (hy : X.N[i]? = some y) (hyl : X.env.scope.names.lookup y = some .local)
    (hsw : swapsWith (.DictComp kx vx [⟨tg, iter, ifs, 0⟩] scope pos) (some (.Name y py)) spos.line X.env = pure true) (hi : PI X tg iter wi) (ok : BlkOk X.N X.env.scope scope own)
    (hg : ∀ (s : Shared) (H : Hp) (C : Addr) (cl : List (Str × Addr)) (fp : List Addr), PG (X.blk s H scope (compEnvC scope cl C X.env) fp) tg g) (ht : ∀ (s : Shared) (H : Hp) (C : Addr) (cl : List (Str × Addr)) (fp : List Addr), PTs (X.blk s H scope (compEnvC scope cl C X.env) fp) ifs tt)
    (hk : ∀ (s : Shared) (H : Hp) (C : Addr) (cl : List (Str × Addr)) (fp : List Addr), PE (X.blk s H scope (compEnvC scope cl C X.env) fp) kx tk)
    (he : ∀ (s : Shared) (H : Hp) (C : Addr) (cl : List (Str × Addr)) (fp : List Addr), PE (X.blk s H scope (compEnvC scope cl C X.env) fp) vx tv) (hs : ∀ x, foldedSetIterable iter X.env x = pure x := by intro _; rfl) :
    PS X (.Assign [.Name y py] (.DictComp kx vx [⟨tg, iter, ifs, 0⟩] scope pos) spos) (tAsg (tDc wi g tt tk tv (own.map (·.2))) (gName i)) := by
  refine ⟨fun pins s σ H D I h => ?_⟩
  rw [exec_Assign_Name_used _ _ _ _ hsw]
  refine wpAny_bind (wpAny_standAt (wpAny_bind ?_))
  show wpAny _ X.A (do let _ ← comprehension (.DictComp kx vx [⟨tg, iter, ifs, 0⟩] scope pos) scope X.env (firstIterPos [⟨tg, iter, ifs, 0⟩] pos) newDict false (eval iter X.env) (some (assign (.Name y py) X.env))) _ _ s
  have h : tDc wi g tt tk tv (own.map (·.2)) σ H (fun x H1 => gName i x σ H1 D.nx) := h
  refine wpAny_bind (thn (dc_core (Qf := fun _ s' => SP X pins D .next s') hc hN I hi ok hg ht hk he hs h fun L C s' m H' I' q hn f => ?_) fun _ s' hq => wpAny_pure (wpAny_pure hq))
  show wpAny _ _ (assign (.Name y py) X.env (.ref L)) _ _ _
  refine wpAny_assign_Name (store_ok2 (v := V.ref L) I' hN hy (.inl hyl) rfl (fun s2 I2 ⟨a, sb, ha⟩ => ?_) (.inr hyl))
  obtain ⟨f0, f1, f2, f3, f4, f5⟩ := f
  have haC : C ≠ a := by
    rcases ha with z | z
    · rw [z]; exact f1
    · exact fun e => f4 y a z e.symm
  refine ⟨m, hn.sameBut sb haC, fun h3 sb3 => ?_⟩
  exact ⟨_, H', I2.turned (t' := s2.toks) (fun b o hb e => (sb3.2 b hb).trans e) f0 f1 f3 f4 f5, q⟩
theorem sw_trueD {kx vx : Expr} {gs : List Comprehension} {scope : Scope} {pos py : Pos} {y : Str} {l : Nat} {env : Env} (hk : env.scope.kind = .function) (hy : env.scope.names.lookup y = some .local) (hl : (py.line == pos.line) = true)
    (ha : (scope.names.any fun (n, k) => n == y && (k == .local || k == .cell)) = false) : swapsWith (.DictComp kx vx gs scope pos) (some (.Name y py)) l env = pure true := by
  have ky : env.kindOf y = some .local := hy
  have hb : env.blockKind = .function := by unfold Env.blockKind; rw [hk]; rfl
  unfold swapsWith
  simp only [hb, ky, ha, Expr.pos, hl]
  rfl
/-- d.update(e), both dicts of texts and ints -/
def rUpd : V → List V → Hp → VK → Prop := fun x xs H Q => ∃ (a b : Addr) (ks ls : List (Key × V)), x = .ref a ∧ xs = [.ref b] ∧ a ≠ b ∧ H a = some (.dK ks) ∧ H b = some (.dK ls) ∧ ks.length + ls.length ≤ sizeLine ∧ Q .non (upd H a (.dK (mergeK ks ls)))
theorem mt_dupdate : MtR X "dict.update" rUpd := by
  intro pins s σ H x xs v us Q I rx rxs h
  obtain ⟨a, b, ks, ls, rfl, rfl, hab, ha, hb, hz, q⟩ := h
  cases rx
  obtain ⟨u, rfl, ru⟩ := rxs.one
  cases ru
  obtain ⟨z1, m1, vs, rel, dd⟩ := dk_of I.hok ha
  obtain ⟨z2, m2, ws, rel2, dd2⟩ := dk_of I.hok hb
  refine call_meetsIn PySem.F.slot_dict_update dd.typeIs PySem.F.entry_dict_update (PySem.F.args_dict_update_2 _ _) (meets_dict_update (mixKind X.prog X.w) a b hab m2)
    ⟨vs, ws, dd, dd2, by rw [← rel.length, ← rel2.length]; exact hz, fun h' hd' ho' hs' => ?_⟩
  have hl := length_mergeK ls ks
  have I' := d_write (t' := s.toks) (ob := .dK (mergeK ks ls)) I (by rw [ha]; exact True.intro) hs' (let ⟨q, _, _, hq, _⟩ := hd'; ⟨q, hq⟩) (dk_new (by omega) m1 (KV.merge rel2 rel) hd')
  exact ⟨.non, _, I', rfl, q⟩
end

/-! ### the names that are here -/
def hereD (ns : List S) : List (Key × V) := ns.map fun n => (Sum.inr n, V.bl true)
theorem hereD_any {ns : List S} {x : S} : ((hereD ns).any fun kv => decide (kv.1 = Sum.inr x)) = decide (x ∈ ns) := by
  unfold hereD
  induction ns with
  | nil => simp
  | cons n r ih =>
    rw [List.map_cons, List.any_cons, ih]
    by_cases h : n = x
    · subst h
      simp
    · have h' : ¬ x = n := fun e => h e.symm
      simp [h, h']
theorem hereD_put {ns : List S} {x : S} : putK (hereD ns) (Sum.inr x) (.bl true) = hereD (add1 ns x) := by
  unfold putK
  rw [hereD_any]
  unfold add1
  by_cases h : x ∈ ns
  · rw [decide_eq_true h, if_pos rfl, if_pos h]
    unfold hereD
    rw [List.map_map]
    refine List.map_congr_left fun n _ => ?_
    show (if (Sum.inr n : Key) = Sum.inr x then ((Sum.inr n : Key), V.bl true) else _) = _
    split <;> rfl
  · rw [decide_eq_false h, if_neg (by decide), if_neg h]
    unfold hereD
    rw [List.map_append]
    rfl
theorem hereD_merge {ms : List S} : ∀ {ns : List S}, mergeK (hereD ns) (hereD ms) = hereD (addNew ns ms) := by
  induction ms with
  | nil => intro ns; rfl
  | cons m r ih =>
    intro ns
    show mergeK (putK (hereD ns) (Sum.inr m) (.bl true)) (hereD r) = _
    rw [hereD_put, ih]
    rfl
theorem hereD_val {ns : List S} {x : S} : (valV (hereD ns) (Sum.inr x)).isSome = decide (x ∈ ns) := by rw [← valV_any, hereD_any]
theorem hereD_len {ns : List S} : (hereD ns).length = ns.length := by simp [hereD]
theorem addNew_nil {ns : List S} (h : ns.Nodup) : addNew [] ns = ns := by
  have g : ∀ (xs f : List S), (f ++ xs).Nodup → addNew f xs = f ++ xs := by
    intro xs
    induction xs with
    | nil => intro f _; simp [addNew]
    | cons x r ih =>
      intro f h
      have hx : x ∉ f := fun hm => by
        rw [List.nodup_append] at h
        exact h.2.2 x hm x List.mem_cons_self rfl
      show addNew (add1 f x) r = _
      have e1 : add1 f x = f ++ [x] := by unfold add1; rw [if_neg hx]
      rw [e1, ih (f ++ [x]) (by rw [List.append_assoc]; exact h), List.append_assoc]
      rfl
  simpa using g ns [] (by simpa using h)

theorem wipe_set1 {σ : L2.St} {i : Nat} {v : Option V} : wipe ((wipe σ [i]).set i v) [i] = wipe σ [i] := by
  apply List.ext_getElem?
  intro j
  rw [wipe_get, wipe_get, List.length_set, wipe_length]
  by_cases h : j ∈ [i]
  · rw [if_pos h, if_pos h]
  · rw [if_neg h, if_neg h, List.getElem?_set_ne (fun e => h (by simp [e])), wipe_get, if_neg h]
section
variable {X : Cx} {e iter ob : Expr} {rest : List Stmt} {σ : L2.St} {H : Hp} {Q : VK} {pos p p1 p2 p3 p' apos cpos tpos : Pos} {Dn : Ends} {k i j kk : Nat} {x y : S} {scope : Scope} {elts ifs : List Expr} {kx vx : Expr}
/-- the reading of {x: True for x in a list that stands} -/
theorem here_read {wi : L2.St → Hp → (It → Hp → Prop) → Prop} {ns : List S} {q : Addr} {H1 : Hp} {Q : VK} {x : S} (hq : SqL X.K H1 q (ns.map V.str)) (hn : ns.length ≤ 64) (hi : ∀ v, wipe ((wipe σ [i]).set i v) [i] = wipe σ [i]) (hlen : i < σ.length)
    (hQ : ∀ l, H1 l = none → Q (.ref l) (upd H1 l (.dK (hereD (addNew [] ns))))) (l : Addr) (hl : H1 l = none) :
    ∃ W : Nat → Nat → Hp → Prop, (∃ m, W 0 m (upd H1 l (.dK []))) ∧ ∀ t m H, W t m H →
      ((Itl X.K q).stop t H ∧ Q (.ref l) H) ∨ ((Itl X.K q).go t H ∧ ∃ Nx : Hp → Prop, (∀ H', Nx H' → ∃ m', m' < m ∧ W (t + 1) m' H') ∧ ∀ x H', (Itl X.K q).yld t H x H' → gName i x (wipe σ [i]) H' fun σ2 H2 => wipe σ2 [i] = wipe σ [i] ∧ tYes σ2 H2 fun b H3 =>
        if b = true then tVar i σ2 H3 fun y H4 => tC (.bl true) σ2 H4 fun z H5 => ∃ kvs k, y = kV k ∧ H5 l = some (.dK kvs) ∧ kvs.length < sizeLine ∧ Nx (upd H5 l (.dK (putK kvs k z))) else Nx H3) := by
  refine ⟨fun t m H => m = ns.length - t ∧ t ≤ ns.length ∧ H = upd H1 l (.dK (hereD (addNew [] (ns.take t)))), ⟨ns.length, by simp, Nat.zero_le _, rfl⟩, ?_⟩
  rintro t m H ⟨rfl, ht, rfl⟩
  have hq' : SqL X.K (upd H1 l (.dK (hereD (addNew [] (ns.take t))))) q (ns.map V.str) := Same.seq (Same.new hl) hq
  by_cases hlt : t < ns.length
  · have hx : ns[t]? = some ns[t] := List.getElem?_eq_getElem hlt
    generalize ns[t] = n at hx
    have hxv : (ns.map V.str)[t]? = some (.str n) := by rw [List.getElem?_map, hx]; rfl
    refine .inr ⟨⟨_, _, hq', hxv⟩, fun H' => H' = upd H1 l (.dK (hereD (addNew [] (ns.take (t + 1))))), fun H' e => ⟨ns.length - (t + 1), by omega, rfl, hlt, e⟩, fun v H' ⟨e1, e2⟩ => ?_⟩
    subst e1
    have e3 := e2 _ hq'
    rw [hxv] at e3
    cases e3
    refine ⟨hi _, ?_⟩
    unfold tYes
    refine iteT ?_
    refine ⟨.str n, ?_, hereD (addNew [] (ns.take t)), Sum.inr n, rfl, upd_same, ?_, ?_⟩
    · rw [List.getElem?_set_self (by rw [wipe_length]; exact hlen)]
    · rw [hereD_len]
      have := nodup_len (l := addNew [] (ns.take t)) (addNew_nodup List.nodup_nil) (m := ns) fun z hz => List.mem_of_mem_take ((addNew_mem.mp hz).resolve_left (by simp))
      exact Nat.lt_of_le_of_lt (Nat.le_trans this hn) (by decide)
    · rw [upd_upd, hereD_put, addNew_step hx]
  · have e : t = ns.length := by omega
    subst e
    refine .inl ⟨⟨_, hq', by simp⟩, ?_⟩
    rw [List.take_length]
    exact hQ l hl
/-- {x: True for x in iter} -/
theorem we_here (i : Nat) (oo : Ok X k) (ok : BlkOk X.N X.env.scope scope [(x, i)]) (h : WE X iter σ H fun v H1 => ∃ q ns, v = .ref q ∧ SqL X.K H1 q (ns.map V.str) ∧ ns.length ≤ 64 ∧ ∀ l, H1 l = none → Q (.ref l) (upd H1 l (.dK (hereD (addNew [] ns))))) (hlen : i < σ.length)
    (hi : X.N[i]? = some x := by rfl) (hx : ∀ (s : Shared) (H : Hp) (C : Addr) (cl : List (S × Addr)) (fp : List Addr), (X.blk s H scope (compEnvC scope cl C X.env) fp).env.scope.names.lookup x = some .local := by intros; rfl) (hd : (x == ("__debug__" : Str)) = false := by decide) (hcd : (x == ("__classdict__" : Str)) = false := by decide) (hs : ∀ x, foldedSetIterable iter X.env x = pure x := by intro _; rfl) :
    WE X (.DictComp (.Name x p1) (.Constant (.bool true) j p2) [⟨.Name x p3, iter, [], 0⟩] scope pos) σ H Q :=
  we_of (pe_dc (own := [(x, i)]) oo.calm oo.nd (pi_list pe_w) ok (fun _ _ _ _ _ => pg_name (i := i) oo.nd hi (Or.inl (hx _ _ _ _ _)) (.inr (hx _ _ _ _ _))) (fun _ _ _ _ _ => pts_nil) (fun _ _ _ _ _ => pe_var (i := i) hi (Or.inl (hx _ _ _ _ _)) hd hcd) (fun _ _ _ _ _ => pe_bl) hs)
    (h.mono fun v H1 ⟨q, ns, e, h1, h2, h3⟩ => ⟨q, e, ⟨_, h1⟩, fun l hl => here_read (X := X) (wi := fun _ _ _ => True) (x := x) h1 h2 (fun v => wipe_set1) hlen h3 l hl⟩)
/-- name = {x: True for x in iter} -/
theorem ws_setHere (i2 i : Nat) (oo : Ok X k) (ok : BlkOk X.N X.env.scope scope [(x, i)]) (h : WE X iter σ H fun v H1 => ∃ q ns, v = .ref q ∧ SqL X.K H1 q (ns.map V.str) ∧ ns.length ≤ 64 ∧ ∀ l, H1 l = none → WS X rest Dn (σ.set i2 (some (.ref l))) (upd H1 l (.dK (hereD (addNew [] ns))))) (hlen : i < σ.length)
    (hi2 : X.N[i2]? = some y := by rfl) (hyl : X.env.scope.names.lookup y = some .local := by rfl)
    (hi : X.N[i]? = some x := by rfl) (hx : ∀ (s : Shared) (H : Hp) (C : Addr) (cl : List (S × Addr)) (fp : List Addr), (X.blk s H scope (compEnvC scope cl C X.env) fp).env.scope.names.lookup x = some .local := by intros; rfl) (hd : (x == ("__debug__" : Str)) = false := by decide) (hcd : (x == ("__classdict__" : Str)) = false := by decide) (hs : ∀ x, foldedSetIterable iter X.env x = pure x := by intro _; rfl)
    (hsw : swapsWith (.DictComp (.Name x p1) (.Constant (.bool true) j p2) [⟨.Name x p3, iter, [], 0⟩] scope p) (some (.Name y p')) pos.line X.env = pure true := by exact sw_trueD rfl rfl rfl (by decide +kernel)) :
    WS X (.Assign [.Name y p'] (.DictComp (.Name x p1) (.Constant (.bool true) j p2) [⟨.Name x p3, iter, [], 0⟩] scope p) pos :: rest) Dn σ H :=
  ws_cons (ps_setDc (own := [(x, i)]) oo.calm oo.nd hi2 hyl hsw (pi_list pe_w) ok (fun _ _ _ _ _ => pg_name (i := i) oo.nd hi (Or.inl (hx _ _ _ _ _)) (.inr (hx _ _ _ _ _))) (fun _ _ _ _ _ => pts_nil) (fun _ _ _ _ _ => pe_var (i := i) hi (Or.inl (hx _ _ _ _ _)) hd hcd) (fun _ _ _ _ _ => pe_bl) hs)
    (h.mono fun v H1 ⟨q, ns, e, h1, h2, h3⟩ => ⟨q, e, ⟨_, h1⟩, fun l hl => here_read (X := X) (wi := fun _ _ _ => True) (x := x) (Q := fun v H' => WS X rest Dn (σ.set i2 (some v)) H') h1 h2 (fun v => wipe_set1) hlen h3 l hl⟩)
/-- the reading of a comprehension over the items of an empty dict -/
theorem pts_no : PTs X ifs (fun _ _ _ => False) := ⟨fun _ _ _ _ _ _ z => z.elim⟩
theorem pe_no : PE X e (fun _ _ _ => False) := ⟨fun _ _ _ _ _ _ z => z.elim⟩
theorem pg_no {tg : Expr} : PG X tg (fun _ _ _ _ => False) := ⟨fun _ _ _ _ _ _ _ _ _ z => z.elim⟩
theorem none_read {d : Addr} {od : Obj} {vs : List Nat} {Q : VK} (hQ : ∀ l, H l = none → Q (.ref l) (upd H l (.dK []))) (hd : H d = some (.dK [])) :
    tDc (iItems (fun σ' H' Q' => H' = upd H d (.frz od (.dK [])) ∧ Q' (.ref d) H')) (fun _ _ _ _ => False) (fun _ _ _ => False) (fun _ _ _ => False) (fun _ _ _ => False) vs σ (upd H d (.frz od (.dK []))) fun v H' => H' d = some (.frz od (.dK [])) ∧ Q v (upd H' d (.dK [])) := by
  refine ⟨rfl, d, od, [], rfl, upd_same, fun l hl => ?_⟩
  have hne : l ≠ d := fun e => by
    subst e
    rw [upd_same] at hl
    cases hl
  have hl' : H l = none := by rwa [upd_ne hne] at hl
  refine ⟨fun t m H' => t = 0 ∧ H' = upd (upd H d (.frz od (.dK []))) l (.dK []), ⟨0, rfl, rfl⟩, ?_⟩
  rintro t m H' ⟨rfl, rfl⟩
  have hd2 : upd (upd H d (.frz od (.dK []))) l (.dK []) d = some (.frz od (.dK [])) := by rw [upd_ne (Ne.symm hne), upd_same]
  refine .inl ⟨⟨hd2, Nat.le_refl _⟩, hd2, ?_⟩
  have e : upd (upd (upd H d (.frz od (.dK []))) l (.dK [])) d (.dK []) = upd H l (.dK []) := by
    funext b
    unfold upd
    by_cases h1 : b = d
    · subst h1
      rw [if_pos rfl, if_neg (Ne.symm hne)]
      exact hd.symm
    · rw [if_neg h1]
      by_cases h2 : b = l
      · rw [if_pos h2, if_pos h2]
      · rw [if_neg h2, if_neg h2, if_neg h1]
  rw [e]
  exact hQ l hl'
/-- {k: v for .. in d.items() if ..}, d empty -/
theorem we_noItems {own : List (S × Nat)} {d : Addr} (oo : Ok X k) (ok : BlkOk X.N X.env.scope scope own) (hd : H d = some (.dK [])) (he : ∀ od, WE X ob σ (upd H d (.frz od (.dK []))) fun v H' => v = .ref d ∧ H' = upd H d (.frz od (.dK []))) (hQ : ∀ l, H l = none → Q (.ref l) (upd H l (.dK [])))
    (hs : ∀ x, foldedSetIterable (.Call (.Attribute ob "items" apos) [] [] cpos) X.env x = pure x := by intro _; rfl) (hbase : attributeBase ob "items" X.env (eval ob X.env) = eval ob X.env := by rfl) (hline : (apos.endLine == cpos.line) = true := by rfl) :
    WE X (.DictComp kx vx [⟨.Tuple elts kk tpos, .Call (.Attribute ob "items" apos) [] [] cpos, ifs, 0⟩] scope pos) σ H Q := by
  have hob : ∀ od, PE X ob (fun σ' H' Q' => σ' = σ ∧ H' = upd H d (.frz od (.dK [])) ∧ Q' (.ref d) H') := fun od => ⟨fun pins s σ' H' Q' I ⟨e1, e2, q⟩ => by
    subst e1 e2
    exact thn ((he od).run pins s I) fun u s' ⟨v, H2, I2, r, ev, eH⟩ => ⟨.ref d, _, eH ▸ I2, ev ▸ r, q⟩⟩
  refine we_of (t := tLockE fun σ' H' Q' => ∃ od, σ' = σ ∧ H' = upd H d (.frz od (.dK [])) ∧ Q' = Q' ∧ tDc (iItems (fun σ' H' Q' => σ' = σ ∧ H' = upd H d (.frz od (.dK [])) ∧ Q' (.ref d) H')) (fun _ _ _ _ => False) (fun _ _ _ => False) (fun _ _ _ => False) (fun _ _ _ => False) (own.map (·.2)) σ' H' Q')
    (pe_lock ⟨fun pins s σ' H' Q' I ⟨od, e1, e2, _, q⟩ => (pe_dc oo.calm oo.nd (pi_items (hob od) hbase hline) ok (fun _ _ _ _ _ => pg_no) (fun _ _ _ _ _ => pts_no) (fun _ _ _ _ _ => pe_no) (fun _ _ _ _ _ => pe_no) hs).run pins s σ' H' Q' I q⟩) ?_
  refine ⟨d, .dK [], hd, trivial, fun od => ⟨od, rfl, rfl, rfl, ?_⟩⟩
  obtain ⟨_, r⟩ := none_read (σ := σ) (od := od) (vs := own.map (·.2)) hQ hd
  exact ⟨rfl, rfl, r⟩
end
end K74

set_option Elab.async false
set_option linter.all false
set_option maxRecDepth 100000
set_option maxHeartbeats 4000000
/-! K74.KP1: a Process as it stands, what is read of it. -/
namespace K74
open PySem PySem.Spec PyProof.Rows L2

/-! ### the mirror -/
structure PSt where
  counts : List Int
  opened : List Nat
  pub : List S
  deep : List S
def firstM (P : ProgD) : List S := rowM P [mainOf P]
def rowsOf (P : ProgD) : List (List S) := (List.range P.doors.length).map (doorRow P)
def hereM (P : ProgD) (opened : List Nat) : List S := opened.foldl (fun h k => addNew h (addNew [] (doorRow P k))) (addNew [] (firstM P))
def nearM (P : ProgD) (opened : List Nat) (n : S) : List S := (opened.filter fun k => decide (n ∈ doorRow P k)).flatMap (doorRow P)
def looksM (P : ProgD) (st : PSt) (n : S) : List S :=
  if n ∈ firstM P then st.pub else addNew [] (if n ∈ st.deep then nearM P st.opened n ++ st.pub else st.pub ++ nearM P st.opened n)
def foundM (P : ProgD) (st : PSt) (n : S) (u : UseD) : Ans := (server P (looksM P st n) u).getD (noAns u)
theorem hereM_mem {P : ProgD} {os : List Nat} {x : S} : x ∈ hereM P os ↔ x ∈ firstM P ∨ ∃ k ∈ os, x ∈ doorRow P k := by
  have g : ∀ (os : List Nat) (h : List S), x ∈ os.foldl (fun h k => addNew h (addNew [] (doorRow P k))) h ↔ x ∈ h ∨ ∃ k ∈ os, x ∈ doorRow P k := by
    intro os
    induction os with
    | nil => intro h; simp
    | cons k r ih =>
      intro h
      rw [List.foldl_cons, ih, addNew_mem, addNew_mem]
      simp only [List.not_mem_nil, false_or, List.mem_cons, exists_eq_or_imp]
      rw [or_assoc]
  unfold hereM
  rw [g, addNew_mem]
  simp

theorem ne_of_none' {H : Hp} {a b : Addr} {o : HO} (h : H a = some o) (h' : H b = none) : b ≠ a := fun e => ne_of_none h h' e.symm
/-! ### as it stands in the heap -/
structure PR where
  dx : Addr
  G : Addr
  cA : Addr
  oA : Addr
  pA : Addr
  dA : Addr
  sA : Addr
  hA : Addr
  vp : V
  vf : V
  vr : V
def fsP (r : PR) : List (S × V) := [("own_ground", .ref r.G), ("own_program", r.vp), ("own_first", r.vf), ("own_rows", r.vr), ("own_counts", .ref r.cA), ("own_opened", .ref r.oA), ("own_public", .ref r.pA), ("own_deep", .ref r.dA), ("own_slots", .ref r.sA), ("own_here", .ref r.hA)]
def fsG (vp vf vr : V) : List (S × V) := [("own_program", vp), ("own_first", vf), ("own_rows", vr)]
def vNat (k : Nat) : V := .int (k : Int)
def dNat (k : Nat) : D := .int (k : Int)
/-- the process at a: its own cells -/
structure PAt (C : Addr) (H : Hp) (a : Addr) (r : PR) (st : PSt) (hs : List S) : Prop where
  ins : H a = some (.ins C r.dx (fsP r))
  counts : H r.cA = some (.lst (st.counts.map V.int))
  opened : H r.oA = some (.lst (st.opened.map vNat))
  pub : H r.pA = some (.lst (st.pub.map V.str))
  deep : H r.dA = some (.lst (st.deep.map V.str))
  slots : H r.sA = some (.dK [])
  here : H r.hA = some (.dK (hereD hs))
/-- what all processes of a program share -/
structure GAt (K : PySem.W.Frag) (CG : Addr) (B : Hp) (G : Addr) (vp vf vr : V) (P : ProgD) : Prop where
  ins : ∃ dx, B G = some (.ins CG dx (fsG vp vf vr))
  prog : Dat K B vp (encProg P)
  first : Dat K B vf (.lst ((firstM P).map D.str))
  rows : Dat K B vr (.lst ((rowsOf P).map fun l => .lst (l.map D.str)))
theorem PAt.mono {C : Addr} {H H' : Hp} {a : Addr} {r : PR} {st : PSt} {hs : List S} (s : Same H H') (p : PAt C H a r st hs) : PAt C H' a r st hs := ⟨s _ _ p.ins, s _ _ p.counts, s _ _ p.opened, s _ _ p.pub, s _ _ p.deep, s _ _ p.slots, s _ _ p.here⟩
theorem GAt.mono {K : PySem.W.Frag} {CG : Addr} {B B' : Hp} {G : Addr} {vp vf vr : V} {P : ProgD} (s : Same B B') (g : GAt K CG B G vp vf vr P) : GAt K CG B' G vp vf vr P :=
  ⟨let ⟨dx, h⟩ := g.ins; ⟨dx, s _ _ h⟩, g.prog.mono s, g.first.mono s, g.rows.mono s⟩
theorem ints_dat {K : PySem.W.Frag} {H : Hp} : ∀ {xs : List Int}, DatAll K H (xs.map V.int) (xs.map D.int)
  | [] => .nil
  | x :: r => .cons (.int x) ints_dat
theorem nats_dat {K : PySem.W.Frag} {H : Hp} : ∀ {xs : List Nat}, DatAll K H (xs.map vNat) (xs.map dNat)
  | [] => .nil
  | x :: r => .cons (.int _) nats_dat
/-- the class facts that the reading asks -/
structure ClsP (K : PySem.W.Frag) (C : Addr) : Prop where
  cls : Cls K C
  ground : NoAttr K C "own_ground"
  program : NoAttr K C "own_program"
  first : NoAttr K C "own_first"
  rows : NoAttr K C "own_rows"
  counts : NoAttr K C "own_counts"
  opened : NoAttr K C "own_opened"
  pub : NoAttr K C "own_public"
  deep : NoAttr K C "own_deep"
  slots : NoAttr K C "own_slots"
  here : NoAttr K C "own_here"
theorem PAt.at {C : Addr} {H : Hp} {a : Addr} {r : PR} {st : PSt} {hs : List S} (p : PAt C H a r st hs) {m : S} (hm : (fsP r).lookup m = none) : InsAt H C a m := ⟨_, _, p.ins, hm⟩

section
variable {X : Cx} {B : Hp} {ρ : Rho} {k : Nat} {e i o : Expr} {pos p : Pos} {C a : Addr} {r : PR} {st : PSt} {hs : List S} {P : ProgD} {CG : Addr}
theorem ef_program (c : ClsP X.K C) (h : PAt C B a r st hs) (g : GAt X.K CG B r.G r.vp r.vf r.vr P) (ho : EE X e B ρ (.raw (.ref a))) (hb : attributeBase e "own_program" X.env (eval e X.env) = eval e X.env := by rfl) : EE X (.Attribute e "own_program" pos) B ρ (encProg P) := ee_fld (C := C) ho ⟨_, _, r.vp, h.ins, c.cls, c.program, rfl, g.prog⟩ hb
theorem ef_first (c : ClsP X.K C) (h : PAt C B a r st hs) (g : GAt X.K CG B r.G r.vp r.vf r.vr P) (ho : EE X e B ρ (.raw (.ref a))) (hb : attributeBase e "own_first" X.env (eval e X.env) = eval e X.env := by rfl) : EE X (.Attribute e "own_first" pos) B ρ (.lst ((firstM P).map D.str)) := ee_fld (C := C) ho ⟨_, _, r.vf, h.ins, c.cls, c.first, rfl, g.first⟩ hb
theorem ef_rows (c : ClsP X.K C) (h : PAt C B a r st hs) (g : GAt X.K CG B r.G r.vp r.vf r.vr P) (ho : EE X e B ρ (.raw (.ref a))) (hb : attributeBase e "own_rows" X.env (eval e X.env) = eval e X.env := by rfl) : EE X (.Attribute e "own_rows" pos) B ρ (.lst ((rowsOf P).map fun l => .lst (l.map D.str))) := ee_fld (C := C) ho ⟨_, _, r.vr, h.ins, c.cls, c.rows, rfl, g.rows⟩ hb
theorem ef_counts (c : ClsP X.K C) (h : PAt C B a r st hs) (ho : EE X e B ρ (.raw (.ref a))) (hb : attributeBase e "own_counts" X.env (eval e X.env) = eval e X.env := by rfl) : EE X (.Attribute e "own_counts" pos) B ρ (.lst (st.counts.map D.int)) := ee_fld (C := C) ho ⟨_, _, _, h.ins, c.cls, c.counts, rfl, .lst h.counts ints_dat⟩ hb
theorem ef_opened (c : ClsP X.K C) (h : PAt C B a r st hs) (ho : EE X e B ρ (.raw (.ref a))) (hb : attributeBase e "own_opened" X.env (eval e X.env) = eval e X.env := by rfl) : EE X (.Attribute e "own_opened" pos) B ρ (.lst (st.opened.map dNat)) := ee_fld (C := C) ho ⟨_, _, _, h.ins, c.cls, c.opened, rfl, .lst h.opened nats_dat⟩ hb
theorem ef_pub (c : ClsP X.K C) (h : PAt C B a r st hs) (ho : EE X e B ρ (.raw (.ref a))) (hb : attributeBase e "own_public" X.env (eval e X.env) = eval e X.env := by rfl) : EE X (.Attribute e "own_public" pos) B ρ (.lst (st.pub.map D.str)) := ee_fld (C := C) ho ⟨_, _, _, h.ins, c.cls, c.pub, rfl, .lst h.pub DatAll.of_strs⟩ hb
theorem ef_deep (c : ClsP X.K C) (h : PAt C B a r st hs) (ho : EE X e B ρ (.raw (.ref a))) (hb : attributeBase e "own_deep" X.env (eval e X.env) = eval e X.env := by rfl) : EE X (.Attribute e "own_deep" pos) B ρ (.lst (st.deep.map D.str)) := ee_fld (C := C) ho ⟨_, _, _, h.ins, c.cls, c.deep, rfl, .lst h.deep DatAll.of_strs⟩ hb
theorem ef_here (c : ClsP X.K C) (h : PAt C B a r st hs) (ho : EE X e B ρ (.raw (.ref a))) (hb : attributeBase e "own_here" X.env (eval e X.env) = eval e X.env := by rfl) : EE X (.Attribute e "own_here" pos) B ρ (.raw (.ref r.hA)) := ee_fld (C := C) ho ⟨_, _, _, h.ins, c.cls, c.here, rfl, .raw _⟩ hb
theorem ef_rowsR (c : ClsP X.K C) (h : PAt C B a r st hs) {q : Addr} {ws : List V} (e1 : r.vr = .ref q) (hq : B q = some (.lst ws)) (ho : EE X e B ρ (.raw (.ref a))) (hb : attributeBase e "own_rows" X.env (eval e X.env) = eval e X.env := by rfl) : EE X (.Attribute e "own_rows" pos) B ρ (.lst (ws.map D.raw)) := ee_fld (C := C) ho ⟨_, _, r.vr, h.ins, c.cls, c.rows, rfl, by
  rw [e1]
  refine .lst hq ?_
  clear hq
  induction ws with
  | nil => exact .nil
  | cons v vs ih => exact .cons (.raw v) ih⟩ hb
/-- a + b of lists: the new list -/
theorem we_cat {a b : Expr} {σ : L2.St} {H : Hp} {Q : VK} (h : WE X a σ H fun u H1 => WE X b σ H1 fun v H2 => ∃ la lb xs ys, u = .ref la ∧ v = .ref lb ∧ H2 la = some (.lst xs) ∧ H2 lb = some (.lst ys) ∧ xs.length + ys.length ≤ sizeLine ∧ ∀ p, H2 p = none → Q (.ref p) (upd H2 p (.lst (xs ++ ys)))) : WE X (.BinOp a .Add b pos) σ H Q :=
  we_of (pe_op op_cat pe_w pe_w) h
/-- self.f -/
theorem we_fp {f : S} {σ : L2.St} {H : Hp} {Q : VK} (j : Nat) {y : S} {u : V} (c : ClsP X.K C) (p0 : PAt C H a r st hs) (hσ : σ[j]? = some (some (.ref a))) (nf : NoAttr X.K C f) (hl : (fsP r).lookup f = some u) (q : Q u H) (hN : X.N[j]? = some y := by rfl) (hv : Vis X.env.scope y := by first | exact Or.inl rfl | exact Or.inr (Or.inl rfl) | exact Or.inr (Or.inr rfl)) (hd : (y == ("__debug__" : Str)) = false := by decide)
    (hcd : (y == ("__classdict__" : Str)) = false := by decide) (hb : attributeBase (.Name y p) f X.env (eval (.Name y p) X.env) = eval (.Name y p) X.env := by rfl) : WE X (.Attribute (.Name y p) f pos) σ H Q :=
  we_fld (we_var j hσ ⟨a, C, _, _, u, rfl, p0.ins, c.cls, nf, hl, q⟩ hN hv hd hcd) hb
/-- name in the dict of names -/
theorem ee_inHere {x : S} {q : Addr} (oo : Ok X k) (hi : EE X i B ρ (.str x)) (ho : EE X o B ρ (.raw (.ref q))) (hq : B q = some (.dK (hereD hs))) (hm : behindInMarks .In o = false := by first | exact nobehind _ (by decide) (by decide) | rfl) : EE X (.Compare i [.In] [o] pos) B ρ (.bl (decide (x ∈ hs))) :=
  PE.weak (pe_cmp (pc_din (hu_of oo.room) hi ho) hm) fun σ H Q h => t2 h.1 fun u v H2 s du dv => by
    cases du
    cases dv
    refine ⟨q, _, rfl, DGet.k (k := Sum.inr x) (s _ _ (h.1.1 _ _ hq)), ?_⟩
    rw [hereD_val]
    exact h.2 _ H2 s (.bl _)
end

section
variable {P : Program} {w : World} {K : PySem.W.Frag} {mg : Str → Option Value} {base : Heap} {f : Addr} {fd : FuncData} {k : Nat} {CP CG : Addr}
abbrev s_is_there : Stmt := inClass (top 37) 5
theorem sc_is_there : FnScope ["self", "name"] ["self", "name"] (defScope s_is_there) := ⟨rfl, rfl, rfl, by decide +kernel, rfl, by decide +kernel, by decide +kernel⟩
def RIsThere (CP : Addr) : Hp → List D → D → Prop := fun H ds d => ∃ a r st hs n, PAt CP H a r st hs ∧ ds = [.raw (.ref a), .str n] ∧ d = .bl (decide (n ∈ hs))
theorem ok_is_there (F : Fun K "is_there" "Process.is_there" s_is_there f fd) (c : ClsP K CP) : FnOk P w K mg base CX0 1 f fd ["self", "name"] (spP K (RIsThere CP)) := by
  refine fn_P F sc_is_there (fun H ds d h => ?_) (fun cdv A outer s H E ds d oo h => ?_)
  · obtain ⟨a, r, st, hs, n, _, rfl, _⟩ := h
    rfl
  · obtain ⟨a, r, st, hs, n, p, rfl, rfl⟩ := h
    exact bs_ret (ee_inHere oo (ee_var 1 rfl) (ef_here c p (ee_var 0 rfl)) p.here)

abbrev s_look_there : Stmt := inClass (top 37) 9
theorem sc_look_there : FnScope ["self", "name"] ["self", "name"] (defScope s_look_there) := ⟨rfl, rfl, rfl, by decide +kernel, rfl, by decide +kernel, by decide +kernel⟩
def RLookThere (K : PySem.W.Frag) (CP CG : Addr) : Hp → List D → D → Prop := fun H ds d => ∃ a r st hs n P l, PAt CP H a r st hs ∧ GAt K CG H r.G r.vp r.vf r.vr P ∧ ds = [.raw (.ref a), .str n] ∧ d = .non ∧ n ∈ hs ∧ libOf P n = some l ∧ P.libs.length ≤ 8
theorem ok_look_there (F : Fun K "look_there" "Process.look_there" s_look_there f fd) (c : ClsP K CP) (c_lib_at : Cal P w K mg base 2 "lib_at" (spP K RLibAt)) (m_is_there : Met P w K mg base 1 CP "is_there" (spP K (RIsThere CP))) : FnOk P w K mg base CX0 3 f fd ["self", "name"] (spP K (RLookThere K CP CG)) := by
  refine fn_P0 F sc_look_there (fun H ds d h => ?_) (fun cdv A outer s H E ds d oo h => ?_)
  · obtain ⟨a, r, st, hs, n, _, _, _, _, rfl, rfl, _⟩ := h
    exact ⟨rfl, rfl⟩
  · obtain ⟨a, r, st, hs, n, G, l, p, g, rfl, rfl, hn, hl, hz⟩ := h
    refine bs_expr (ee_call c_lib_at oo (by decide) (ea_cons (ef_program c p g (ee_var 0 rfl)) (ea_cons (ee_var 1 rfl) ea_nil)) (fun _ _ => ⟨G, n, l, rfl, rfl, hl, hz⟩)) ?_
    refine bs_ifF (et_is ?_ (et_not (et_val (ee_meth m_is_there oo (by decide) (ee_var 0 rfl) (p.at rfl) (ea_cons (ee_var 1 rfl) ea_nil) (fun _ s => ⟨a, r, st, hs, n, p.mono s, rfl, rfl⟩))))) (bs_nil .nil)
    rw [decide_eq_true hn]
    rfl

abbrev s_counts : Stmt := inClass (top 37) 3
theorem sc_counts : FnScope ["self"] ["self"] (defScope s_counts) := ⟨rfl, rfl, rfl, by decide +kernel, rfl, by decide +kernel, by decide +kernel⟩
def RCounts (CP : Addr) : Hp → List D → D → Prop := fun H ds d => ∃ a r st hs, PAt CP H a r st hs ∧ ds = [.raw (.ref a)] ∧ d = .lst (st.counts.map D.int)
theorem ok_counts (F : Fun K "counts" "Process.counts" s_counts f fd) (c : ClsP K CP) (T : Gb mg) : FnOk P w K mg base CX0 1 f fd ["self"] (spP K (RCounts CP)) := by
  refine fn_P F sc_counts (fun H ds d h => ?_) (fun cdv A outer s H E ds d oo h => ?_)
  · obtain ⟨a, r, st, hs, _, rfl, _⟩ := h
    rfl
  · obtain ⟨a, r, st, hs, p, rfl, rfl⟩ := h
    exact bs_ret (ee_list T.list (ef_counts c p (ee_var 0 rfl)))
abbrev s_opened : Stmt := inClass (top 37) 4
theorem sc_opened : FnScope ["self"] ["self"] (defScope s_opened) := ⟨rfl, rfl, rfl, by decide +kernel, rfl, by decide +kernel, by decide +kernel⟩
def ROpened (CP : Addr) : Hp → List D → D → Prop := fun H ds d => ∃ a r st hs, PAt CP H a r st hs ∧ ds = [.raw (.ref a)] ∧ d = .lst (st.opened.map dNat)
theorem ok_opened (F : Fun K "opened" "Process.opened" s_opened f fd) (c : ClsP K CP) (T : Gb mg) : FnOk P w K mg base CX0 1 f fd ["self"] (spP K (ROpened CP)) := by
  refine fn_P F sc_opened (fun H ds d h => ?_) (fun cdv A outer s H E ds d oo h => ?_)
  · obtain ⟨a, r, st, hs, _, rfl, _⟩ := h
    rfl
  · obtain ⟨a, r, st, hs, p, rfl, rfl⟩ := h
    exact bs_ret (ee_list T.list (ef_opened c p (ee_var 0 rfl)))
abbrev s_deep : Stmt := inClass (top 37) 8
theorem sc_deep : FnScope ["self"] ["self"] (defScope s_deep) := ⟨rfl, rfl, rfl, by decide +kernel, rfl, by decide +kernel, by decide +kernel⟩
def RDeep (CP : Addr) : Hp → List D → D → Prop := fun H ds d => ∃ a r st hs, PAt CP H a r st hs ∧ ds = [.raw (.ref a)] ∧ d = .lst ((sortS st.deep).map D.str) ∧ st.deep.length < 64
theorem ok_deep (F : Fun K "deep" "Process.deep" s_deep f fd) (c : ClsP K CP) (T : Gb mg) : FnOk P w K mg base CX0 1 f fd ["self"] (spP K (RDeep CP)) := by
  refine fn_P F sc_deep (fun H ds d h => ?_) (fun cdv A outer s H E ds d oo h => ?_)
  · obtain ⟨a, r, st, hs, _, rfl, _⟩ := h
    rfl
  · obtain ⟨a, r, st, hs, p, rfl, rfl, hl⟩ := h
    exact bs_ret (ee_sortedS T.sorted (ef_deep c p (ee_var 0 rfl)) hl)
def encBase (st : PSt) : D := .tup [.tup (st.counts.map D.int), .tup (st.opened.map dNat), .tup (st.pub.map D.str), .tup ((sortS st.deep).map D.str)]
abbrev s_base : Stmt := inClass (top 37) 12
theorem sc_base : FnScope ["self"] ["self"] (defScope s_base) := ⟨rfl, rfl, rfl, by decide +kernel, rfl, by decide +kernel, by decide +kernel⟩
def RBase (CP : Addr) : Hp → List D → D → Prop := fun H ds d => ∃ a r st hs, PAt CP H a r st hs ∧ ds = [.raw (.ref a)] ∧ d = encBase st ∧ st.deep.length < 64
theorem ok_base (F : Fun K "base" "Process.base" s_base f fd) (c : ClsP K CP) (T : Gb mg) (m_deep : Met P w K mg base 1 CP "deep" (spP K (RDeep CP))) : FnOk P w K mg base CX0 2 f fd ["self"] (spP K (RBase CP)) := by
  refine fn_P F sc_base (fun H ds d h => ?_) (fun cdv A outer s H E ds d oo h => ?_)
  · obtain ⟨a, r, st, hs, _, rfl, _⟩ := h
    rfl
  · obtain ⟨a, r, st, hs, p, rfl, rfl, hl⟩ := h
    exact bs_ret (ee_tup (ea_cons (ee_tuple T.tuple (ef_counts c p (ee_var 0 rfl)) (.inl rfl)) (ea_cons (ee_tuple T.tuple (ef_opened c p (ee_var 0 rfl)) (.inl rfl)) (ea_cons (ee_tuple T.tuple (ef_pub c p (ee_var 0 rfl)) (.inl rfl))
      (ea_cons (ee_tuple T.tuple (ee_meth0 m_deep oo (by decide) (ee_var 0 rfl) (p.at rfl) (fun _ s => ⟨a, r, st, hs, p.mono s, rfl, rfl, hl⟩)) (.inl rfl)) ea_nil)))))
abbrev s_look_door : Stmt := inClass (top 37) 14
theorem sc_look_door : FnScope ["self", "k"] ["self", "k"] (defScope s_look_door) := ⟨rfl, rfl, rfl, by decide +kernel, rfl, by decide +kernel, by decide +kernel⟩
def RLookDoor (CP : Addr) : Hp → List D → D → Prop := fun H ds d => ∃ a r st hs k, PAt CP H a r st hs ∧ ds = [.raw (.ref a), dNat k] ∧ d = .non ∧ k < st.counts.length
theorem ok_look_door (F : Fun K "look_door" "Process.look_door" s_look_door f fd) (c : ClsP K CP) (T : Gb mg) : FnOk P w K mg base CX0 1 f fd ["self", "k"] (spP K (RLookDoor CP)) := by
  refine fn_P0 F sc_look_door (fun H ds d h => ?_) (fun cdv A outer s H E ds d oo h => ?_)
  · obtain ⟨a, r, st, hs, k, _, rfl, rfl, _⟩ := h
    exact ⟨rfl, rfl⟩
  · obtain ⟨a, r, st, hs, k, p, rfl, rfl, hk⟩ := h
    refine bs_ifF (et_is ?_ (et_not (et_chain op_le op_lt ee_int (ee_var 1 rfl) (ee_len T.len (ef_counts c p (ee_var 0 rfl)) (by simp [D.len]; rfl))))) (bs_nil .nil)
    rw [decide_eq_true (show (0 : Int) ≤ (k : Int) by omega), decide_eq_true (show (k : Int) < (st.counts.length : Int) by omega)]
    rfl

abbrev s_looks : Stmt := inClass (top 37) 10
theorem sc_looks : FnScope ["self", "name", "near", "found", "other", "number"] ["self", "name"] (defScope s_looks) := ⟨rfl, rfl, rfl, by decide +kernel, rfl, by decide +kernel, by decide +kernel⟩
/-- sizes and places of a process -/
structure PZ (P : ProgD) (st : PSt) : Prop where
  opened : st.opened.length ≤ 8 ∧ ∀ k ∈ st.opened, k < P.doors.length
  pub : st.pub.length ≤ 64 ∧ ∀ x ∈ st.pub, x ∈ names P
  deep : st.deep.length < 64
theorem rowsOf_get {P : ProgD} {k : Nat} (h : k < P.doors.length) : (rowsOf P)[k]? = some (doorRow P k) := by
  unfold rowsOf
  rw [List.getElem?_map, List.getElem?_range h]
  rfl
theorem rows_at {P : ProgD} {k : Nat} (h : k < P.doors.length) : (D.lst ((rowsOf P).map fun l => .lst (l.map D.str))).at ((k : Nat) : Int) = some (.lst ((doorRow P k).map D.str)) := by
  show atI ((rowsOf P).map fun l => D.lst (l.map D.str)) _ = _
  exact atI_nat (by rw [List.getElem?_map, rowsOf_get h]; rfl)
theorem doorRow_names {P : ProgD} (hw : WF P) {k : Nat} : ∀ x ∈ doorRow P k, x ∈ names P := by
  unfold doorRow
  cases h : P.doors[k]? with
  | none => intro x hx; cases hx
  | some d =>
    refine row_names hw fun z hz => ?_
    have : z = d.1 := by simpa using hz
    subst this
    exact hw.doors d (List.mem_of_getElem? h)
theorem doorRow_nodup {P : ProgD} {k : Nat} : (doorRow P k).Nodup := by
  unfold doorRow
  cases P.doors[k]? with
  | none => exact List.nodup_nil
  | some d => exact row_nodup _
theorem names_len {P : ProgD} (hz : SZ P) {l : List S} (hn : l.Nodup) (h : ∀ x ∈ l, x ∈ names P) : l.length ≤ 8 := by
  have h1 := nodup_len hn h
  have := hz.libs
  rw [names, List.length_map] at h1
  omega
theorem nearM_len {P : ProgD} (hw : WF P) (hz : SZ P) {os : List Nat} (h : os.length ≤ 8) (n : S) : (nearM P os n).length ≤ 64 := by
  unfold nearM
  have h1 := List.length_filter_le (fun k => decide (n ∈ doorRow P k)) os
  rw [List.length_flatMap]
  have : ∀ xs : List Nat, (xs.map fun x => (doorRow P x).length).sum ≤ xs.length * 8 := fun xs => by
    induction xs with
    | nil => simp
    | cons x r ih =>
      rw [List.map_cons, List.sum_cons, List.length_cons, Nat.succ_mul, Nat.add_comm]
      exact Nat.add_le_add ih (names_len hz doorRow_nodup (doorRow_names hw))
  have := this (os.filter fun k => decide (n ∈ doorRow P k))
  omega
theorem nearM_names {P : ProgD} (hw : WF P) {os : List Nat} {n : S} : ∀ x ∈ nearM P os n, x ∈ names P := fun x hx => by
  obtain ⟨k, _, h⟩ := List.mem_flatMap.mp hx
  exact doorRow_names hw x h
def RLooks (K : PySem.W.Frag) (CP CG : Addr) : Hp → List D → D → Prop := fun H ds d => ∃ a r st hs n P, PAt CP H a r st hs ∧ GAt K CG H r.G r.vp r.vf r.vr P ∧ ds = [.raw (.ref a), .str n] ∧ d = .lst ((looksM P st n).map D.str) ∧ n ∈ hs ∧ n ∈ names P ∧ WF P ∧ SZ P ∧ PZ P st
theorem ok_looks (F : Fun K "looks" "Process.looks" s_looks f fd) (c : ClsP K CP) (T : Gb mg) (m_look_there : Met P w K mg base 3 CP "look_there" (spP K (RLookThere K CP CG))) : FnOk P w K mg base CX0 4 f fd ["self", "name"] (spP K (RLooks K CP CG)) := by
  refine fn_WP F sc_looks (fun H ds d h => ?_) (fun cdv A outer s H E vs ds d Q oo h hvs hQ => ?_)
  · obtain ⟨a, r, st, hs, n, G, _, _, rfl, _⟩ := h
    rfl
  · obtain ⟨a, r, st, hs, n, G, p, g, rfl, rfl, hn, hnm, hw, hz, pz⟩ := h
    obtain rfl : vs = [.ref a, .str n] := by
      cases hvs with | cons h1 r => cases r with | cons h2 r => cases r; cases h1; cases h2; rfl
    obtain ⟨l, hl1, hl2, hl3⟩ := libOf_some hnm
    have el0 : EL K H (startR ["self", "name", "near", "found", "other", "number"] [.raw (.ref a), .str n]) [some (.ref a), some (.str n), none, none, none, none] := EL.start hvs
    refine ws_expr (we_ee (ee_meth m_look_there oo (by decide) (ee_var 0 rfl) (p.at rfl) (ea_cons (ee_var 1 rfl) ea_nil) (fun _ s => ⟨a, r, st, hs, n, G, l, p.mono s, g.mono s, rfl, rfl, hn, hl1, hz.libs⟩)) el0 fun _ H1 s1 _ => ?_)
    have p1 := p.mono s1
    have g1 := g.mono s1
    refine ws_ifE (et_cmp (od_inS oo (xs := firstM G)) (ee_var 1 rfl) (ef_first c p1 g1 (ee_var 0 rfl))) (el0.mono s1) (fun hb H2 s2 => ?_) (fun hb H2 s2 => ?_)
    · have hf : n ∈ firstM G := of_decide_eq_true hb
      refine ws_ret (we_ee (ee_list T.list (ef_pub c (p1.mono s2) (ee_var 0 rfl))) ((el0.mono s1).mono s2) fun v H3 s3 dv => hQ v H3 ((s1.trans s2).trans s3) ?_)
      unfold looksM
      rw [if_pos hf]
      exact dv
    · have hf : n ∉ firstM G := of_decide_eq_false hb
      have p2 := p1.mono s2
      have g2 := g1.mono s2
      refine ws_nil ?_
      have hrow : ∀ i ∈ st.opened, (rowsOf G)[i]? = some (doorRow G i) := fun i hi => rowsOf_get (pz.opened.2 i hi)
      have hrowat : ∀ i ∈ st.opened, ∃ q, ∃ vs : List V, ∃ qr, ∃ ws : List V, r.vr = .ref qr ∧ H2 qr = some (.lst ws) ∧ ws[i]? = some (.ref q) ∧ H2 q = some (.lst vs) ∧ DatAll K H2 vs ((doorRow G i).map D.str) := fun i hi => by
        have hr := g2.rows
        generalize hvr : r.vr = vr at hr
        cases hr with
        | @lst qr ws ds h1 h2 =>
          obtain ⟨v, hv, dv⟩ := h2.get (i := i) (d := .lst ((doorRow G i).map D.str)) (by rw [List.getElem?_map, hrow i hi]; rfl)
          cases dv with
          | @lst q vs ds h3 h4 => exact ⟨q, vs, qr, ws, rfl, h1, hv, h3, h4⟩
      refine ws_setLc2 2 oo (lc2_mk (xs := st.opened) (enc := dNat) (p := fun k => decide (n ∈ doorRow G k)) (ys := fun k => doorRow G k) (enc1 := fun _ x => .str x) (p1 := fun _ _ => true) (f := fun _ x => .str x) (ρ := startR ["self", "name", "near", "found", "other", "number"] [.raw (.ref a), .str n]) (blkOk_by rfl) (by decide) (si_lst (ef_opened c p2 (ee_var 0 rfl))) (fun _ _ _ _ _ => pg_name (i := 5) oo.nd rfl (Or.inl rfl))
        (fun _ _ _ _ _ x hx => ets_one (et_cmp (od_inS oo.blk (xs := doorRow G x)) (ee_var 1 rfl) (ee_ix (i := (x : Nat)) (d := .lst ((doorRow G x).map D.str)) (ef_rows c p2 g2 (ee_var 0 rfl)) (ee_var 5 rfl) (rows_at (pz.opened.2 x hx)))))
        (fun _ _ _ _ _ => el1_old fun x hx => ?_) (fun _ _ _ _ _ => pg_name (i := 4) oo.nd rfl (Or.inl rfl)) (fun _ _ _ _ _ x y hx hp hy => ets_nil) (fun _ _ _ _ _ x y hx hp hy hq => (ee_var 4 rfl)) ⟨.inl rfl, .inl rfl⟩ (fun x hx => rfl) (fun x hx y hy => rfl) (fun x hx y hy => rfl) ?_) ((el0.mono s1).mono s2) fun ln wn H3 hln s3 h3 hd3 => ?_
      · obtain ⟨q, vs, qr, ws, e1, h1, h2, h3, h4⟩ := hrowat x hx.1
        exact ⟨q, vs, ee_ix (i := (x : Nat)) (ef_rowsR c p2 e1 h1 (ee_var 0 rfl)) (ee_var 5 rfl) (atI_nat (xs := ws.map D.raw) (by rw [List.getElem?_map, h2]; rfl)), h3, h4⟩
      · have := nearM_len hw hz pz.opened.1 n
        unfold nearM at this
        exact Nat.lt_of_le_of_lt this (by decide)
      · have p3 := p2.mono s3
        have g3 := g2.mono s3
        have en : ((st.opened.filter fun k => decide (n ∈ doorRow G k)).flatMap fun k => ((doorRow G k).filter fun _ => true).map fun x => D.str x) = (nearM G st.opened n).map D.str := by
          unfold nearM
          rw [List.map_flatMap]
          congr 1
          funext x
          rw [List.filter_eq_self.mpr (fun _ _ => rfl)]
        rw [en] at hd3
        have hwn := hd3.strs
        subst hwn
        have hs3 := (s1.trans s2).trans s3
        -- found = []
        refine ws_set 3 oo (we_of (pe_lst pa_nil) ⟨Nat.zero_le _, fun pf hpf => ?_⟩)
        have hpf2 : pf ≠ ln := ne_of_none' h3 hpf
        have s4 : Same H3 (upd H3 pf (.lst [])) := Same.new hpf
        generalize hH4 : upd H3 pf (.lst []) = H4 at s4 ⊢
        have hp4 : H4 pf = some (.lst []) := by rw [← hH4]; exact upd_same
        have p4 := p3.mono s4
        have hln4 := s4 _ _ h3
        let line := if n ∈ st.deep then nearM G st.opened n ++ st.pub else st.pub ++ nearM G st.opened n
        have hll : line.length ≤ 128 := by
          have h1 := nearM_len hw hz pz.opened.1 n
          have h2 := pz.pub.1
          show (if n ∈ st.deep then nearM G st.opened n ++ st.pub else st.pub ++ nearM G st.opened n).length ≤ 128
          split <;> (rw [List.length_append]; omega)
        have hln' : ∀ x ∈ line, x ∈ names G := fun x hx => by
          have hx' : x ∈ (if n ∈ st.deep then nearM G st.opened n ++ st.pub else st.pub ++ nearM G st.opened n) := hx
          split at hx'
          · rcases List.mem_append.mp hx' with h | h
            · exact nearM_names hw x h
            · exact pz.pub.2 x h
          · rcases List.mem_append.mp hx' with h | h
            · exact pz.pub.2 x h
            · exact nearM_names hw x h
        let Q' : VK := fun v H5 => ∃ l, v = .ref l ∧ l ≠ pf ∧ Same H4 H5 ∧ H5 l = some (.lst (line.map V.str))
        refine ws_forL oo PassesOwn.never (WE.mono (Q := Q') ?_ fun v H5 ⟨l, ev, hlp, s5, hl5⟩ => ?_)
        · have el4 : EL K H4 [some (.raw (.ref a)), some (.str n)] [some (.ref a), some (.str n), some (.ref ln), some (.ref pf), none, none] := .cons (.raw _) (.cons (.str n) .nil)
          refine we_of (pe_ifExp pt_w pe_w pe_w) (wt_et (et_cmp (od_inS oo (xs := st.deep)) (ee_var 1 rfl) (ef_deep c p4 (ee_var 0 rfl))) el4 fun H5 s5 => ?_)
          have p5 := p4.mono s5
          have hln5 := s5 _ _ hln4
          have fin : ∀ (xs : List S), xs = line → ∀ q, H5 q = none → Q' (.ref q) (upd H5 q (.lst (xs.map V.str))) := fun xs e q hq => by
            subst e
            exact ⟨q, rfl, ne_of_none' (s5 _ _ hp4) hq, s5.trans (Same.new hq), upd_same⟩
          by_cases hdp : n ∈ st.deep
          · rw [decide_eq_true hdp]
            refine iteT (we_cat (we_var 2 rfl (we_fp 0 c p5 rfl c.pub rfl ⟨ln, r.pA, _, _, rfl, rfl, hln5, p5.pub, ?_, fun q hq => ?_⟩)))
            · have h1 := nearM_len hw hz pz.opened.1 n
              have h2 := pz.pub.1
              rw [List.length_map, List.length_map]
              exact Nat.le_trans (by omega : _ ≤ 128) (by decide)
            · rw [← List.map_append]
              exact fin _ (by show _ = (if n ∈ st.deep then _ else _); rw [if_pos hdp]) q hq
          · rw [decide_eq_false hdp]
            refine iteF (we_cat (we_fp 0 c p5 rfl c.pub rfl (we_var 2 rfl ⟨r.pA, ln, _, _, rfl, rfl, p5.pub, hln5, ?_, fun q hq => ?_⟩)))
            · have h1 := nearM_len hw hz pz.opened.1 n
              have h2 := pz.pub.1
              rw [List.length_map, List.length_map]
              exact Nat.le_trans (by omega : _ ≤ 128) (by decide)
            · rw [← List.map_append]
              exact fin _ (by show _ = (if n ∈ st.deep then _ else _); rw [if_neg hdp]) q hq
        · have hpfH : H pf = none := hs3.free hpf
          let J : Nat → L2.St → Hp → Prop := fun i σ H' => ∃ (x4 x5 : Option V), σ = [some (.ref a), some (.str n), some (.ref ln), some (.ref pf), x4, x5] ∧ Same H H' ∧ H' l = some (.lst (line.map V.str)) ∧ H' pf = some (.lst ((addNew [] (line.take i)).map V.str))
          refine ⟨l, line.map V.str, J, ev, ⟨none, none, rfl, (hs3.trans s4).trans s5, hl5, s5 _ _ hp4⟩, ?_, ?_, ?_⟩
          · rintro i σ H6 _ ⟨x4, x5, rfl, _, hl6, _⟩
            exact SqL.of hl6
          · rintro i x σ H6 hx ⟨x4, x5, rfl, s6, hl6, hp6⟩
            obtain ⟨y, hy, rfl⟩ := get_map_some hx
            refine wg_name 4 oo ?_
            refine ws_ifE (et_cmp (od_notInS oo (xs := addNew [] (line.take i))) (ee_var 4 rfl) (ee_var 3 rfl)) (ρ := [none, none, none, some (.lst ((addNew [] (line.take i)).map D.str)), some (.str y)]) (.skip (.skip (.skip (.cons (.lst hp6 DatAll.of_strs) (.cons (.str y) .nil))))) (fun hb H7 s7 => ?_) (fun hb H7 s7 => ?_)
            · have hm : y ∉ addNew [] (line.take i) := by simpa using hb
              have hp7 := s7 _ _ hp6
              refine ws_append (we_var 3 rfl ⟨pf, rfl, ⟨_, hp7⟩, we_var 4 rfl ⟨_, hp7, ?_, ws_nil (ws_nil ⟨some (.str y), x5, rfl, hideOf (s6.trans s7) hpfH, ?_, ?_⟩)⟩⟩)
              · have := nodup_len (l := addNew [] (line.take i)) (addNew_nodup List.nodup_nil) (m := line) fun z hz => List.mem_of_mem_take ((addNew_mem.mp hz).resolve_left (by simp))
                rw [List.length_map]
                exact Nat.lt_of_le_of_lt (Nat.le_trans this hll) (by decide)
              · rw [upd_ne hlp]
                exact s7 _ _ hl6
              · rw [addNew_step hy]
                unfold add1
                rw [if_neg hm, upd_same, List.map_append]
                rfl
            · have hm : y ∈ addNew [] (line.take i) := by simpa using hb
              refine ws_nil (ws_nil ⟨some (.str y), x5, rfl, s6.trans s7, s7 _ _ hl6, ?_⟩)
              rw [addNew_step hy]
              unfold add1
              rw [if_pos hm]
              exact s7 _ _ hp6
          · rintro σ H6 ⟨x4, x5, rfl, s6, hl6, hp6⟩
            rw [List.length_map, List.take_length] at hp6
            refine ws_ret (we_var 3 rfl (hQ _ H6 s6 ?_))
            unfold looksM
            rw [if_neg hf]
            exact .lst hp6 DatAll.of_strs
end
end K74

set_option Elab.async false
set_option linter.all false
set_option maxRecDepth 100000
set_option maxHeartbeats 4000000
/-! K74.KP2: found, all_here, a Ground and a Process made. -/
namespace K74
open PySem PySem.Spec PyProof.Rows L2

def st0 (P : ProgD) : PSt := ⟨List.replicate P.doors.length 0, [], firstM P, []⟩
/-- the class facts of Ground -/
structure ClsG (K : PySem.W.Frag) (C : Addr) : Prop where
  cls : Cls K C
  program : NoAttr K C "own_program"
  first : NoAttr K C "own_first"
  rows : NoAttr K C "own_rows"

section
variable {X : Cx} {e ob : Expr} {rest : List Stmt} {σ : L2.St} {H B : Hp} {Q : VK} {pos p p' : Pos} {Dn : Ends} {k : Nat} {y f : S} {C a : Addr}
/-- self.f = e -/
theorem ws_sf (j : Nat) (c : Cls X.K C) (nf : NoAttr X.K C f) (hσ : σ[j]? = some (some (.ref a))) (h : WE X e σ H fun v H1 => ∃ dx fs, H1 a = some (.ins C dx fs) ∧ fs.length < 1000 ∧ WS X rest Dn σ (upd H1 a (.ins C dx (putF f v fs)))) (hN : X.N[j]? = some y := by rfl) (hv : Vis X.env.scope y := by first | exact Or.inl rfl | exact Or.inr (Or.inl rfl) | exact Or.inr (Or.inr rfl)) (hd : (y == ("__debug__" : Str)) = false := by decide)
    (hcd : (y == ("__classdict__" : Str)) = false := by decide) (hs : swapsWith e (some (.Attribute (.Name y p) f p')) pos.line X.env = pure false := by rfl) : WS X (.Assign [.Attribute (.Name y p) f p'] e pos :: rest) Dn σ H :=
  ws_fld (h.mono fun v H1 ⟨dx, fs, h1, h2, h3⟩ => we_var j hσ ⟨a, C, dx, fs, rfl, h1, c, nf, h2, h3⟩ hN hv hd hcd) hs
/-- a method of one's own, called -/
theorem hide_put {o : HO} : hide (upd H a o) a = hide H a := hide_upd H a o
end

section
variable {P : Program} {w : World} {K : PySem.W.Frag} {mg : Str → Option Value} {base : Heap} {f : Addr} {fd : FuncData} {k : Nat} {CP CG : Addr}
abbrev s_found : Stmt := inClass (top 37) 20
theorem sc_found : FnScope ["self", "name", "i", "use", "other", "version"] ["self", "name", "i"] (defScope s_found) := ⟨rfl, rfl, rfl, by decide +kernel, rfl, by decide +kernel, by decide +kernel⟩
theorem looksM_names {P : ProgD} {st : PSt} (hw : WF P) (pz : PZ P st) {n : S} : ∀ x ∈ looksM P st n, x ∈ names P := by
  intro x hx
  unfold looksM at hx
  split at hx
  · exact pz.pub.2 x hx
  · have h := (addNew_mem.mp hx).resolve_left (by simp)
    split at h
    · rcases List.mem_append.mp h with h | h
      · exact nearM_names hw x h
      · exact pz.pub.2 x h
    · rcases List.mem_append.mp h with h | h
      · exact pz.pub.2 x h
      · exact nearM_names hw x h
def RFound (K : PySem.W.Frag) (CP CG : Addr) : Hp → List D → D → Prop := fun H ds d => ∃ a r st hs n P i l u, PAt CP H a r st hs ∧ GAt K CG H r.G r.vp r.vf r.vr P ∧ ds = [.raw (.ref a), .str n, dNat i] ∧ d = encAns (foundM P st n u) ∧ n ∈ hs ∧ libOf P n = some l ∧ l.uses[i]? = some u ∧ WF P ∧ SZ P ∧ PZ P st
theorem ok_found (F : Fun K "found" "Process.found" s_found f fd) (c : ClsP K CP) (C : Gk mg K) (c_use_at : Cal P w K mg base 3 "use_at" (spP K RUseAt)) (c_version_of : Cal P w K mg base 2 "version_of" (spP K RVersion)) (c_lib_of : Cal P w K mg base 1 "lib_of" (spP K RLibOf)) (m_looks : Met P w K mg base 4 CP "looks" (spP K (RLooks K CP CG))) : FnOk P w K mg base CX0 5 f fd ["self", "name", "i"] (spP K (RFound K CP CG)) := by
  refine fn_P F sc_found (fun H ds d h => ?_) (fun cdv A outer s H E ds d oo h => ?_)
  · obtain ⟨a, r, st, hs, n, _, _, _, _, _, _, rfl, _⟩ := h
    rfl
  · obtain ⟨a, r, st, hs, n, G, i, l, u, p, g, rfl, rfl, hn, hl, hu, hw, hz, pz⟩ := h
    have hnm : n ∈ names G := by
      unfold libOf at hl
      have := List.mem_of_mem_head? (show l ∈ _ from hl)
      obtain ⟨h1, h2⟩ := List.mem_filter.mp this
      rw [← of_decide_eq_true h2]
      exact List.mem_map.mpr ⟨l, h1, rfl⟩
    refine bs_set 3 oo (ee_call c_use_at oo (by decide) (ea_cons (ef_program c p g (ee_var 0 rfl)) (ea_cons (ee_var 1 rfl) (ea_cons (ee_var 2 rfl) ea_nil))) (fun _ _ => ⟨G, n, l, i, u, rfl, rfl, hl, hu, hz.libs⟩)) ?_
    have key : ∀ x ∈ looksM G st n, ∃ l, libOf G x = some l ∧ l ∈ G.libs ∧ ansOf G u x = (versionM l u).map fun v => [sBound, x, v] := fun x hx => by
      obtain ⟨l, h1, h2, h3⟩ := libOf_some (looksM_names hw pz x hx)
      refine ⟨l, h1, h2, ?_⟩
      unfold ansOf
      rw [h1]
      show (match versionM l u with | some v => some [sBound, x, v] | none => none) = _
      cases versionM l u <;> rfl
    refine bs_for (ds := (looksM G st n).map D.str) (vs := [4]) (ρ' := fun d => [some (.raw (.ref a)), some (.str n), some (dNat i), some (encUse u), some d, none]) (srvF G u) oo PassesOwn.never (si_lst (ee_meth m_looks oo (by decide) (ee_var 0 rfl) (p.at rfl) (ea_cons (ee_var 1 rfl) ea_nil) (fun _ s => ⟨a, r, st, hs, n, G, p.mono s, g.mono s, rfl, rfl, hn, hnm, hw, hz, pz⟩))) (pg_name (i := 4) oo.nd rfl (Or.inl rfl)) (fun d hd => tg_name) (fun d hd => ?_) ?_
    · obtain ⟨x, hx, rfl⟩ := List.mem_map.mp hd
      obtain ⟨l, h1, h2, h3⟩ := key x hx
      refine bs_set 5 oo (ee_call c_version_of oo (by decide) (ea_cons (ee_call c_lib_of oo (by decide) (ea_cons (ef_program c p g (ee_var 0 rfl)) (ea_cons (ee_var 4 rfl) ea_nil)) (fun _ _ => ⟨G, x, rfl, rfl, hz.libs⟩)) (ea_cons (ee_var 3 rfl) ea_nil)) (d := encOptS (versionM l u)) (fun _ _ => ⟨l, u, by rw [h1]; rfl, rfl, hz.defs l h2⟩)) ?_
      show BS _ _ _ _ (match (ansOf G u x).map encAns with | some r => Out.ret r | none => Out.nx _)
      rw [h3]
      cases hv : versionM l u with
      | none => exact bs_ifF (et_cmp od_notN (ee_var 5 rfl) ee_non) (bs_nil (.cons (.cons (.cons (.cons (.skip (.skip .nil)))))))
      | some v => exact bs_ifR (et_cmp od_notN (ee_var 5 rfl) ee_non) (bs_ret (ee_tup (ea_cons (ee_gc C.BOUND) (ea_cons (ee_var 4 rfl) (ea_cons (ee_var 5 rfl) ea_nil)))))
    · rw [srvF_line]
      unfold foundM
      cases server G (looksM G st n) u with
      | none =>
        refine bs_retIs (ee_if (et_val (ee_ix (ee_var 3 rfl) ee_int rfl)) (fun _ => ee_gc C.NOBODY) (fun _ => ee_gc C.LOST)) ?_
        show _ = encAns (noAns u)
        unfold noAns
        by_cases hb : u.2.2 = true
        · rw [if_pos hb, if_pos hb]
        · rw [if_neg hb, if_neg hb]
      | some a => rfl

abbrev s_all_here : Stmt := inClass (top 37) 1
theorem sc_all_here : FnScope ["self", "found", "number", "name"] ["self"] (defScope s_all_here) := ⟨rfl, rfl, rfl, by decide +kernel, rfl, by decide +kernel, by decide +kernel⟩
def QAllHere (K : PySem.W.Frag) (CP : Addr) : List V → Hp → VK → Prop := fun vs H Q => ∃ (a dx : Addr) (fs : List (S × V)) (vf : V) (oA : Addr) (vr : V) (opened : List Nat) (P : ProgD), vs = [.ref a] ∧ H a = some (.ins CP dx fs) ∧ fs.lookup ("own_first" : S) = some vf ∧ fs.lookup ("own_opened" : S) = some (.ref oA) ∧ fs.lookup ("own_rows" : S) = some vr ∧
  Dat K H vf (.lst ((firstM P).map D.str)) ∧ Dat K H vr (.lst ((rowsOf P).map fun l => .lst (l.map D.str))) ∧ H oA = some (.lst (opened.map vNat)) ∧ WF P ∧ SZ P ∧ (∀ k ∈ opened, k < P.doors.length) ∧
  ∀ l H', H l = none → Same H H' → H' l = some (.dK (hereD (hereM P opened))) → Q (.ref l) H'
theorem firstM_names {P : ProgD} (hw : WF P) : ∀ x ∈ firstM P, x ∈ names P := row_names hw fun z hz => by
  have : z = mainOf P := by simpa using hz
  subst this
  exact mainOf_names hw.ne
theorem hereM_len {P : ProgD} (hw : WF P) (hz : SZ P) (os : List Nat) : (hereM P os).length ≤ 8 := by
  refine names_len hz ?_ fun x hx => ?_
  · unfold hereM
    have g : ∀ (os : List Nat) (h : List S), h.Nodup → (os.foldl (fun h k => addNew h (addNew [] (doorRow P k))) h).Nodup := by
      intro os
      induction os with
      | nil => intro h hh; exact hh
      | cons k r ih => intro h hh; exact ih _ (addNew_nodup hh)
    exact g _ _ (addNew_nodup List.nodup_nil)
  · rcases hereM_mem.mp hx with h | ⟨k, _, h⟩
    · exact firstM_names hw x h
    · exact doorRow_names hw x h
theorem ok_all_here (F : Fun K "all_here" "Process.all_here" s_all_here f fd) (c : ClsP K CP) : FnOk P w K mg base CX0 1 f fd ["self"] (spG (QAllHere K CP)) := by
  refine fn_W F sc_all_here (fun vs H Q h => ?_) (fun cdv A outer s H E vs Q oo h => ?_)
  · obtain ⟨a, dx, fs, vf, oA, vr, op, G, rfl, _⟩ := h
    rfl
  · obtain ⟨a, dx, fs, vf, oA, vr, opened, G, rfl, hin, lf, lo, lr, df, dr, ho, hw, hz, hop, hQ⟩ := h
    obtain ⟨qf, wf, rfl, hqf, hdf⟩ : ∃ q ws, vf = .ref q ∧ H q = some (.lst ws) ∧ DatAll K H ws ((firstM G).map D.str) := by
      cases df with | lst h t => exact ⟨_, _, rfl, h, t⟩
    have := hdf.strs
    subst this
    obtain ⟨qr, wr, rfl, hqr, hdr⟩ : ∃ q ws, vr = .ref q ∧ H q = some (.lst ws) ∧ DatAll K H ws ((rowsOf G).map fun l => .lst (l.map D.str)) := by
      cases dr with | lst h t => exact ⟨_, _, rfl, h, t⟩
    have hfl : (firstM G).length ≤ 64 := by
      have := names_len hz (row_nodup [mainOf G]) (firstM_names hw)
      unfold firstM
      omega
    refine ws_setHere 1 3 oo (blkOk_by rfl) (we_fld (we_var 0 rfl ⟨a, CP, dx, fs, _, rfl, hin, c.cls, c.first, lf, qf, firstM G, rfl, SqL.of hqf, hfl, fun l hl => ?_⟩)) (by decide : 3 < 4)
    have s1 : Same H (upd H l (.dK (hereD (addNew [] (firstM G))))) := Same.new hl
    let J : Nat → L2.St → Hp → Prop := fun i σ H' => ∃ (x2 x3 : Option V), σ = [some (.ref a), some (.ref l), x2, x3] ∧ Same H H' ∧ H' l = some (.dK (hereD (hereM G (opened.take i))))
    refine ws_forL oo PassesOwn.never (we_fld (we_var 0 rfl ⟨a, CP, dx, fs, _, rfl, s1 _ _ hin, c.cls, c.opened, lo, oA, opened.map vNat, J, rfl, ⟨none, none, rfl, s1, upd_same⟩, ?_, ?_, ?_⟩))
    · rintro i σ H' _ ⟨x2, x3, rfl, s2, _⟩
      exact SqL.of (s2 _ _ ho)
    · rintro i x σ H' hx ⟨x2, x3, rfl, s2, hl2⟩
      obtain ⟨kk, hk, rfl⟩ := get_map_some hx
      have hkd := hop kk (List.mem_of_getElem? hk)
      obtain ⟨v, hv, dv⟩ := hdr.get (i := kk) (d := .lst ((doorRow G kk).map D.str)) (by rw [List.getElem?_map, rowsOf_get hkd]; rfl)
      obtain ⟨q, ws, rfl, hq, hdq⟩ : ∃ q ws, v = .ref q ∧ H q = some (.lst ws) ∧ DatAll K H ws ((doorRow G kk).map D.str) := by
        cases dv with | lst h t => exact ⟨_, _, rfl, h, t⟩
      have := hdq.strs
      subst this
      refine wg_name 2 oo ?_
      -- found.update({..})
      refine ws_cons (ps_expr (pe_bm PySem.F.plainAttrs_dict PySem.F.slot_dict_update PySem.F.type_dict_update mt_dupdate pe_w (pa_cons pe_w pa_nil))) ?_
      refine we_var 1 rfl ⟨.inr (.inr (.inl ⟨rfl, .inl ⟨_, hl2⟩⟩)), ?_⟩
      refine we_here 3 oo (blkOk_by rfl) (we_of (pe_ix ix_seq pe_w pe_w (fun _ _ => rfl)) (we_fld (we_var 0 rfl ⟨a, CP, dx, fs, _, rfl, s2 _ _ hin, c.cls, c.rows, lr, we_var 2 rfl (.inl ⟨qr, wr, ((kk : Nat) : Int), .ref q, rfl, rfl, SqL.of (s2 _ _ hqr), atI_nat hv, q, doorRow G kk, rfl, SqL.of (s2 _ _ hq), ?_, fun l2 hl2' => ?_⟩)⟩))) (by decide : 3 < 4)
      · have := names_len hz doorRow_nodup (doorRow_names hw (k := kk))
        omega
      · have hne : l2 ≠ l := ne_of_none' hl2 hl2'
        refine ⟨l, l2, hereD (hereM G (opened.take i)), hereD (addNew [] (doorRow G kk)), rfl, rfl, Ne.symm hne, by rw [upd_ne (Ne.symm hne)]; exact hl2, upd_same, ?_, ws_nil ⟨_, x3, rfl, ?_, ?_⟩⟩
        · rw [hereD_len, hereD_len]
          have h1 := hereM_len hw hz (opened.take i)
          have h2 := names_len hz (addNew_nodup (xs := doorRow G kk) List.nodup_nil) (fun x hx => doorRow_names hw (k := kk) x ((addNew_mem.mp hx).resolve_left (by simp)))
          exact Nat.le_trans (by omega : _ ≤ 16) (by decide)
        · exact hideOf (s2.trans (Same.new hl2')) hl
        · rw [hereD_merge, upd_same, take_len hk]
          unfold hereM
          rw [List.foldl_append]
          rfl
    · rintro σ H' ⟨x2, x3, rfl, s2, hl2⟩
      rw [List.length_map, List.take_length] at hl2
      exact ws_ret (we_var 1 rfl (hQ l H' hl s2 hl2))
end
end K74

set_option Elab.async false
set_option linter.all false
set_option maxRecDepth 100000
set_option maxHeartbeats 4000000
/-! K74.KP3: Ground.__init__, Process.__init__. -/
namespace K74
open PySem PySem.Spec PyProof.Rows L2

/-- a class that may be called -/
structure Mak (P : Program) (w : World) (K : PySem.W.Frag) (mg : Str → Option Value) (base : Heap) (k : Nat) (x : S) (C : Addr) (sp : Sp) : Prop where
  ex : ∃ (f : Addr) (fd : FuncData) (ps : List S), Mk K C f ∧ FnOk P w K mg base CX0 k f fd ps sp ∧ mg x = some (.ref C) ∧ Binds K fd ps []
section
variable {X : Cx} {e ob a elt tg iter : Expr} {es ifs : List Expr} {rest : List Stmt} {σ : L2.St} {H B : Hp} {Q : VK} {pos p p1 p' : Pos} {Dn : Ends} {k j : Nat} {x f : S} {C : Addr} {scope : Scope}
theorem we_mak {R : List V → Hp → VK → Prop} (c : Mak X.prog X.w X.K X.mg X.base k x C (spG R)) (o : Ok X j) (hk : k + 1 ≤ j) (ha : WA X (e :: es) σ H fun vs H1 => ∀ l dx, H1 l = none → H1 dx = none → dx ≠ l → R (.ref l :: vs) (upd (upd H1 dx (.own l)) l (.ins C dx [])) fun v H2 => v = .non ∧ Q (.ref l) H2) (hg : Gl X x := by rfl) (hdb : (x == ("__debug__" : Str)) = false := by decide)
    (he : starEach (e :: es) X.env = (false, eval e X.env) :: starEach es X.env := by rfl) (hpl : (backTo pos (starEach es X.env)).any (·.1) = false := by rfl) : WE X (.Call (.Name x p) (e :: es) [] pos) σ H Q := by
  obtain ⟨g, fd, ps, M, F, hm, b⟩ := c.ex
  exact we_of (pe_make M F (o.room.mono hk) hg hm b .nil pass0 pa_w hdb he hpl) (ha.mono fun vs H1 q l dx h1 h2 h3 => by
    show R (.ref l :: (vs ++ [])) _ _
    rw [List.append_nil]
    exact q l dx h1 h2 h3)
/-- [elt for tg in range(a) if ..] -/
theorem we_lcR (own : List (S × Nat)) (oo : Ok X k) (ok : BlkOk X.N X.env.scope scope own) (hm : X.mg "range" = none) (h : WE X a σ H fun v H1 => ∃ (n : Nat), v = .int (n : Int) ∧ n ≤ 1000000 ∧ ∀ l, H1 l = none → ∃ Pv : Nat → Hp → Prop, Pv 0 (upd H1 l (.lst [])) ∧
      (∀ i H, i < n → Pv i H → Turn1 X scope elt tg ifs (own.map (·.2)) σ l (.int (i : Nat)) H (Pv (i + 1))) ∧ ∀ H, Pv n H → Q (.ref l) H) (hg : Gl X "range" := by rfl) (hs' : starEach [a] X.env = [(false, eval a X.env)] := by rfl)
    (hs : ∀ x, foldedSetIterable (.Call (.Name "range" p) [a] [] p1) X.env x = pure x := by intro _; rfl) :
    WE X (.ListComp elt [⟨tg, .Call (.Name "range" p) [a] [] p1, ifs, 0⟩] scope pos) σ H Q :=
  we_of (pe_lcW own oo ok hs (pi_range1 hg hm (pa_cons pe_w pa_nil hs') hs')) (h.mono fun v H1 ⟨n, e, hn, hh⟩ => by
    subst e
    refine ⟨(n : Int), rfl, by omega, by omega, fun l hl => ?_⟩
    obtain ⟨Pv, h0, h1, h2⟩ := hh l hl
    have := lc_range (lo := 0) (n := n) (g := gB X scope tg) (tt := tB' X scope ifs) (te := eB X scope elt) (vs := own.map (·.2)) (σ := σ) (Qd := Q (.ref l)) Pv h0 (fun i H hi p => by
      rw [Int.zero_add]
      exact h1 i H hi p) h2
    exact this)
end

section
variable {P : Program} {w : World} {K : PySem.W.Frag} {mg : Str → Option Value} {base : Heap} {f : Addr} {fd : FuncData} {k : Nat} {CP CG : Addr}
abbrev s_Ground_init : Stmt := inClass (top 36) 0
theorem sc_Ground_init : FnScope ["self", "program", "number"] ["self", "program"] (defScope s_Ground_init) := ⟨rfl, rfl, rfl, by decide +kernel, rfl, by decide +kernel, by decide +kernel⟩
def QGroundInit (K : PySem.W.Frag) (CG : Addr) : List V → Hp → VK → Prop := fun vs H Q => ∃ (a dx : Addr) (v : V) (P : ProgD), vs = [.ref a, v] ∧ H a = some (.ins CG dx []) ∧ Dat K (hide H a) v (encProg P) ∧ WF P ∧ SZ P ∧ P.pre = [] ∧
  ∀ vp vf vr H', H' a = some (.ins CG dx (fsG vp vf vr)) → Dat K (hide H' a) vp (encProg P) → Dat K (hide H' a) vf (.lst ((firstM P).map D.str)) → Dat K (hide H' a) vr (.lst ((rowsOf P).map fun l => .lst (l.map D.str))) → Same (hide H a) H' → Q .non H'
theorem hide_mono {H H' : Hp} {a : Addr} (s : Same H H') : Same (hide H a) (hide H' a) := fun b o e => by
  unfold hide at e ⊢
  split at e
  · cases e
  · rename_i ne
    rw [if_neg ne]
    exact s _ _ e
theorem hide_at {H : Hp} {a b : Addr} (h : b ≠ a) : hide H a b = H b := by unfold hide; rw [if_neg h]
theorem hide_self {H : Hp} {a : Addr} : hide H a a = none := by unfold hide; rw [if_pos rfl]
theorem ok_Ground_init {ka kf kd : Nat} (F : Fun K "__init__" "Ground.__init__" s_Ground_init f fd) (c : ClsG K CG) (T : Gb mg) (hk : ka ≤ k ∧ kf ≤ k ∧ kd ≤ k) (c_as : Cal P w K mg base ka "as_tuples" (spP K (RAs 5))) (c_first_row : Cal P w K mg base kf "first_row" (spN K RFirstRow)) (c_door_row : Cal P w K mg base kd "door_row" (spN K RDoorRow)) :
    FnOk P w K mg base CX0 (k + 1) f fd ["self", "program"] (spG (QGroundInit K CG)) := by
  refine fn_W F sc_Ground_init (fun vs H Q h => ?_) (fun cdv A outer s H E vs Q oo h => ?_)
  · obtain ⟨a, dx, v, G, rfl, _⟩ := h
    rfl
  · obtain ⟨a, dx, v, G, rfl, hin, dv, hw, hz, hpre, hQ⟩ := h
    have dv0 := dv.mono (hide_same _ _)
    -- own_program
    refine ws_sf 0 c.cls c.program rfl (we_ee (ee_call c_as oo hk.1 (ea_cons (ee_var 1 rfl) ea_nil) (fun _ _ => ⟨rfl, flat_prog hz⟩)) (ρ := [none, some (encProg G), none]) (.skip (.cons dv0 (.skip .nil))) fun vp H1 s1 dvp => ⟨dx, [], s1 _ _ hin, by decide, ?_⟩)
    have himm := encProg_imm hz
    -- tuples do not lean on a
    have kT : ∀ {H' : Hp} {o : HO}, H' a = some (.ins CG dx []) → ∀ b xs, SqT K H' b xs → SqT K (hide H' a) b xs := fun {H'} {o} ha b xs h => by
      rcases h with h | h
      · have ne : b ≠ a := fun e => by
          subst e
          rcases h with h | ⟨_, h⟩ <;> (rw [ha] at h; cases h)
        rcases h with h | ⟨ob, h⟩
        · exact .inl (.inl (by rw [hide_at ne]; exact h))
        · exact .inl (.inr ⟨ob, by rw [hide_at ne]; exact h⟩)
      · exact .inr h
    have dvp' : Dat K (hide H1 a) vp (encProg G) := Dat.keepT (kT (o := .lst []) (s1 _ _ hin)) dvp himm
    have s1' : Same (hide H a) (hide H1 a) := hide_mono s1
    have e2 : hide (upd H1 a (.ins CG dx (putF "own_program" vp []))) a = hide H1 a := hide_upd _ _ _
    generalize hH2 : upd H1 a (.ins CG dx (putF "own_program" vp [])) = H2 at e2 ⊢
    have hin2 : H2 a = some (.ins CG dx [("own_program", vp)]) := by rw [← hH2]; exact upd_same
    have dvp2 : Dat K (hide H2 a) vp (encProg G) := by rw [e2]; exact dvp'
    have efp : ∀ {H' : Hp} {fs : List (S × V)} {ρ : Rho} {e : Expr} {pos : Pos}, H' a = some (.ins CG dx (("own_program", vp) :: fs)) → Dat K H' vp (encProg G) → EE (cxOf CX0 P w K mg base ["self", "program", "number"] "Ground.__init__" (defScope s_Ground_init) f cdv A outer s H E).nox e H' ρ (.raw (.ref a)) → attributeBase e "own_program" (cxOf CX0 P w K mg base ["self", "program", "number"] "Ground.__init__" (defScope s_Ground_init) f cdv A outer s H E).nox.env (eval e (cxOf CX0 P w K mg base ["self", "program", "number"] "Ground.__init__" (defScope s_Ground_init) f cdv A outer s H E).nox.env) = eval e (cxOf CX0 P w K mg base ["self", "program", "number"] "Ground.__init__" (defScope s_Ground_init) f cdv A outer s H E).nox.env →
        EE (cxOf CX0 P w K mg base ["self", "program", "number"] "Ground.__init__" (defScope s_Ground_init) f cdv A outer s H E).nox (.Attribute e "own_program" pos) H' ρ (encProg G) := fun h1 h2 h3 h4 => ee_fld (C := CG) h3 ⟨_, _, vp, h1, c.cls, c.program, rfl, h2⟩ h4
    -- own_first
    refine ws_sf 0 c.cls c.first rfl (we_en (en_call c_first_row oo hk.2.1 (ea_cons (efp hin2 (dvp2.mono (hide_same _ _)) (ee_var 0 rfl) rfl) ea_nil) (fun _ _ => ⟨G, rfl, rfl, hw, hz, by rw [hpre]; intro n hn; cases hn⟩)) (ρ := [some (.raw (.ref a)), none, none]) (.cons (.raw _) (.skip (.skip .nil))) fun lf wf H3 hlf s3 h3 hd3 => ⟨dx, _, s3 _ _ hin2, by show 1 < 1000; decide, ?_⟩)
    rw [hpre] at hd3
    have hwf := hd3.strs
    subst hwf
    have hlfa : lf ≠ a := ne_of_none' hin2 hlf
    have s3' : Same (hide H2 a) (hide H3 a) := hide_mono s3
    have e4 : hide (upd H3 a (.ins CG dx (putF "own_first" (.ref lf) [("own_program", vp)]))) a = hide H3 a := hide_upd _ _ _
    generalize hH4 : upd H3 a (.ins CG dx (putF "own_first" (.ref lf) [("own_program", vp)])) = H4 at e4 ⊢
    have hin4 : H4 a = some (.ins CG dx [("own_program", vp), ("own_first", .ref lf)]) := by rw [← hH4]; exact upd_same
    have dvp4 : Dat K (hide H4 a) vp (encProg G) := by rw [e4]; exact dvp2.mono s3'
    have dlf4 : Dat K (hide H4 a) (.ref lf) (.lst ((firstM G).map D.str)) := by
      rw [e4]
      exact .lst (by rw [hide_at hlfa]; exact h3) DatAll.of_strs
    -- own_rows
    have hdl : (D.tup (G.doors.map encPair)).len = some G.doors.length := len_map
    refine ws_sf 0 c.cls c.rows rfl (we_lcR [("number", 2)] oo (blkOk_by rfl) T.range (we_ee (ee_len T.len (ee_ix (efp hin4 (dvp4.mono (hide_same _ _)) (ee_var 0 rfl) rfl) ee_int rfl) hdl) (ρ := [some (.raw (.ref a)), none, none]) (.cons (.raw _) (.skip (.skip .nil))) fun v5 H5 s5 dv5 => ?_))
    cases dv5
    refine ⟨G.doors.length, rfl, by have := hz.doors; omega, fun l hl => ⟨fun i H' => Same H5 H' ∧ ∃ ws, H' l = some (.lst ws) ∧ DatAll K (hide H' l) ws (((List.range i).map (doorRow G)).map fun l => .lst (l.map D.str)), ⟨Same.new hl, [], upd_same, .nil⟩, ?_, ?_⟩⟩
    · rintro i H6 hi ⟨s6, ws, hws, hd6⟩
      intro bs bH bC bcl bfp
      refine wg_name 2 oo.blk ⟨rfl, fun bs bH bC bcl bfp => wts_nil (iteT ?_)⟩
      intro bs bH bC bcl bfp
      have s46 : Same H4 H6 := s5.trans s6
      have dvp6 := (dvp4.mono (hide_same _ _)).mono s46
      refine we_en (en_call c_door_row oo.blk hk.2.2 (ea_cons (ee_fld (C := CG) (ee_var 0 rfl) ⟨_, _, vp, s46 _ _ hin4, c.cls, c.program, rfl, dvp6⟩) (ea_cons (ee_var 2 rfl) ea_nil)) (fun _ _ => ⟨G, i, rfl, rfl, hw, hz, hi⟩)) (ρ := [some (.raw (.ref a)), none, some (.int (i : Nat))]) (.cons (.raw _) (.skip (.cons (.int _) .nil))) fun lr wr H7 hlr s7 h7 hd7 => ?_
      have hlrl : lr ≠ l := ne_of_none' hws hlr
      refine ⟨ws, s7 _ _ hws, ?_, ?_, ws ++ [.ref lr], upd_same, ?_⟩
      · have := hd6.length
        simp only [List.length_map, List.length_range] at this
        have := hz.doors
        exact Nat.lt_of_le_of_lt (by omega : _ ≤ 8) (by decide)
      · exact hideOf (s6.trans s7) hl
      · rw [hide_upd, List.range_succ, List.map_append, List.map_append]
        exact (hd6.mono (hide_mono s7)).append (.one (.lst (by rw [hide_at hlrl]; exact h7) (by
          have := hd7.strs
          subst this
          exact DatAll.of_strs)))
    · rintro H6 ⟨s6, ws, hws, hd6⟩
      have s46 : Same H4 H6 := s5.trans s6
      refine ⟨dx, _, s46 _ _ hin4, by show 2 < 1000; decide, ws_nil ?_⟩
      have hla : l ≠ a := ne_of_none' (s5 _ _ hin4) hl
      have e7 : hide (upd H6 a (.ins CG dx (putF "own_rows" (.ref l) [("own_program", vp), ("own_first", .ref lf)]))) a = hide H6 a := hide_upd _ _ _
      have s46' : Same (hide H4 a) (hide H6 a) := hide_mono s46
      refine hQ vp (.ref lf) (.ref l) _ (by rw [upd_same]; rfl) (by rw [e7]; exact dvp4.mono s46') (by rw [e7]; exact dlf4.mono s46') ?_ ?_
      · rw [e7]
        refine .lst (vs := ws) (by rw [hide_at hla]; exact hws) ?_
        -- rows: not at a
        have hsub : ∀ {ws : List V} {ls : List (List S)}, DatAll K (hide H6 l) ws (ls.map fun l => .lst (l.map D.str)) → DatAll K (hide H6 a) ws (ls.map fun l => .lst (l.map D.str)) := fun {ws} {ls} h => by
          induction ls generalizing ws with
          | nil => cases h; exact .nil
          | cons x r ih =>
            cases h with
            | cons h t =>
              refine .cons ?_ (ih t)
              cases h with
              | @lst q vs ds h1 h2 =>
                have hq := hide_same _ _ _ _ h1
                have hqa : q ≠ a := fun e => by
                  subst e
                  rw [s46 _ _ hin4] at hq
                  cases hq
                refine .lst (by rw [hide_at hqa]; exact hq) ?_
                have := h2.strs
                subst this
                exact DatAll.of_strs
        exact hsub hd6
      · have t1 : Same (hide H a) (hide H6 a) := ((s1'.trans (by rw [← e2]; exact Same.refl _)).trans s3').trans ((by rw [← e4]; exact Same.refl _ : Same (hide H3 a) (hide H4 a)).trans s46')
        exact t1.trans (by rw [← e7]; exact hide_same _ _)
end
end K74

set_option Elab.async false
set_option linter.all false
set_option maxRecDepth 100000
set_option maxHeartbeats 4000000
/-! K74.KP4: Process.__init__, twin. -/
namespace K74
open PySem PySem.Spec PyProof.Rows L2

mutual
theorem Dat.keep2 {K : PySem.W.Frag} {H H' : Hp} (hl : ∀ b vs, H b = some (.lst vs) → H' b = some (.lst vs)) (ht : ∀ a xs, SqT K H a xs → SqT K H' a xs) : ∀ {v : V} {d : D}, Dat K H v d → Dat K H' v d
  | _, _, .non => .non
  | _, _, .bl b => .bl b
  | _, _, .int i => .int i
  | _, _, .str x => .str x
  | _, _, .lst h t => .lst (hl _ _ h) (DatAll.keep2 hl ht t)
  | _, _, .tup h t => .tup (ht _ _ h) (DatAll.keep2 hl ht t)
  | _, _, .raw v => .raw v
theorem DatAll.keep2 {K : PySem.W.Frag} {H H' : Hp} (hl : ∀ b vs, H b = some (.lst vs) → H' b = some (.lst vs)) (ht : ∀ a xs, SqT K H a xs → SqT K H' a xs) : ∀ {vs : List V} {ds : List D}, DatAll K H vs ds → DatAll K H' vs ds
  | _, _, .nil => .nil
  | _, _, .cons h t => .cons (Dat.keep2 hl ht h) (DatAll.keep2 hl ht t)
end
/-- an object of a class is no part of data -/
theorem Dat.beside {K : PySem.W.Frag} {H : Hp} {a C dx : Addr} {fs : List (S × V)} (ha : H a = some (.ins C dx fs)) {v : V} {d : D} (h : Dat K H v d) : Dat K (hide H a) v d :=
  Dat.keep2 (fun b vs e => by rw [hide_at (fun z => by subst z; rw [ha] at e; cases e)]; exact e) (fun b xs e => by
    rcases e with e | e
    · have ne : b ≠ a := fun z => by
        subst z
        rcases e with e | ⟨_, e⟩ <;> (rw [ha] at e; cases e)
      rcases e with e | ⟨ob, e⟩
      · exact .inl (.inl (by rw [hide_at ne]; exact e))
      · exact .inl (.inr ⟨ob, by rw [hide_at ne]; exact e⟩)
    · exact .inr e) h
/-- what isinstance(.., Ground) asks -/
structure IsiG (mg : Str → Option Value) (K : PySem.W.Frag) (CG : Addr) : Prop where
  name : mg "Ground" = some (.ref CG)
  tup : PySem.W.kitOne K (.type "tuple") (.ref CG) = some false
  own : PySem.W.kitOne K (.ref CG) (.ref CG) = some true
  ty : ∀ (H : Hp) (a dx : Addr) (fs : List (S × V)), H a = some (.ins CG dx fs) → TyX K H (.ref a) (.ref CG)
section
variable {X : Cx} {e a : Expr} {rest : List Stmt} {σ : L2.St} {H B : Hp} {Q : VK} {pos p p1 p' : Pos} {Dn : Ends} {k : Nat} {y f : S} {C l dx CG : Addr} {fs : List (S × V)}
theorem we_isG {z : Bool} (g : IsiG X.mg X.K CG) (hm : X.mg "isinstance" = none) (ha : WE X a σ H fun v H1 => ∃ t, TyX X.K H1 v t ∧ PySem.W.kitOne X.K t (.ref CG) = some z ∧ Q (.bl z) H1) (hg : Gl X "isinstance" := by rfl) (hgx : Gl X "Ground" := by rfl)
    (hs : starEach [a, .Name "Ground" p1] X.env = (false, eval a X.env) :: starEach [.Name "Ground" p1] X.env := by rfl) (hs2 : starEach [.Name "Ground" p1] X.env = (false, eval (.Name "Ground" p1) X.env) :: starEach [] X.env := by rfl) : WE X (.Call (.Name "isinstance" p) [a, .Name "Ground" p1] [] pos) σ H Q :=
  we_of (pe_callB L2.call_isi hg hm (by decide +kernel) (pa_cons pe_w (pa_cons (pe_glob (v := .ref CG) hgx g.name rfl) pa_nil hs2) hs) (he := hs)) (ha.mono fun v H1 ⟨t, h1, h2, h3⟩ => ⟨v, .ref CG, t, .ref CG, z, rfl, .own CG, h1, h2, h3⟩)
/-- self.f = e, by what stands beside self -/
theorem ws_sfh (j : Nat) (c : Cls X.K C) (nf : NoAttr X.K C f) (hσ : σ[j]? = some (some (.ref l))) (hf : fs.length < 1000) (h : WE X e σ H fun v H1 => H1 l = some (.ins C dx fs) ∧ ∀ H2, hide H2 l = hide H1 l → H2 l = some (.ins C dx (putF f v fs)) → WS X rest Dn σ H2) (hN : X.N[j]? = some y := by rfl) (hv : Vis X.env.scope y := by first | exact Or.inl rfl | exact Or.inr (Or.inl rfl) | exact Or.inr (Or.inr rfl)) (hd : (y == ("__debug__" : Str)) = false := by decide)
    (hcd : (y == ("__classdict__" : Str)) = false := by decide) (hs : swapsWith e (some (.Attribute (.Name y p) f p')) pos.line X.env = pure false := by rfl) : WS X (.Assign [.Attribute (.Name y p) f p'] e pos :: rest) Dn σ H :=
  ws_sf j c nf hσ (h.mono fun v H1 ⟨h1, h2⟩ => ⟨dx, fs, h1, hf, h2 _ (hide_upd _ _ _) upd_same⟩) hN hv hd hcd hs
/-- list(xs) -/
theorem we_list (hm : X.mg "list" = none) (ha : WE X a σ H fun v H1 => ∃ q ys, v = .ref q ∧ H1 q = some (.lst ys) ∧ ∀ l, H1 l = none → Q (.ref l) (upd H1 l (.lst ys))) (hg : Gl X "list" := by rfl) (hs : starEach [a] X.env = (false, eval a X.env) :: starEach [] X.env := by rfl) : WE X (.Call (.Name "list" p) [a] [] pos) σ H Q :=
  we_of (pe_callTy call_list_of hg hm (by decide +kernel) (pa_cons pe_w pa_nil hs) (he := hs)) (ha.mono fun v H1 ⟨q, ys, e, h1, h2⟩ => ⟨q, ys, by rw [e], .inl (SqL.of h1), h2⟩)
/-- x.f, x a local that holds an object -/
theorem we_vf (j : Nat) {u : V} (hσ : σ[j]? = some (some (.ref l))) (c : Cls X.K C) (nf : NoAttr X.K C f) (hin : H l = some (.ins C dx fs)) (hl : fs.lookup f = some u) (q : Q u H) (hN : X.N[j]? = some y := by rfl) (hv : Vis X.env.scope y := by first | exact Or.inl rfl | exact Or.inr (Or.inl rfl) | exact Or.inr (Or.inr rfl)) (hd : (y == ("__debug__" : Str)) = false := by decide)
    (hcd : (y == ("__classdict__" : Str)) = false := by decide) (hb : attributeBase (.Name y p) f X.env (eval (.Name y p) X.env) = eval (.Name y p) X.env := by rfl) : WE X (.Attribute (.Name y p) f pos) σ H Q :=
  we_fld (we_var j hσ ⟨l, C, _, _, u, rfl, hin, c, nf, hl, q⟩ hN hv hd hcd) hb
end

section
variable {P : Program} {w : World} {K : PySem.W.Frag} {mg : Str → Option Value} {base : Heap} {f : Addr} {fd : FuncData} {k : Nat} {CP CG : Addr}
abbrev s_Process_init : Stmt := inClass (top 37) 0
theorem sc_Process_init : FnScope ["self", "program", "ground", "door"] ["self", "program"] (defScope s_Process_init) := ⟨rfl, rfl, rfl, by decide +kernel, rfl, by decide +kernel, by decide +kernel⟩
/-- the cells of one's own -/
def ownP (r : PR) : List Addr := [r.cA, r.oA, r.pA, r.dA]
structure NewP (CP : Addr) (H : Hp) (a dx : Addr) (P : ProgD) (r : PR) (H' : Hp) : Prop where
  at_ : PAt CP H' a r (st0 P) (hereM P [])
  same : Same (hide H a) H'
  free : ∀ x ∈ ownP r ++ [r.sA], H x = none
  nd : (ownP r).Nodup
def QProcInit (K : PySem.W.Frag) (CP CG : Addr) : List V → Hp → VK → Prop := fun vs H Q => ∃ (a dx : Addr) (v : V) (P : ProgD), vs = [.ref a, v] ∧ H a = some (.ins CP dx []) ∧ WF P ∧ SZ P ∧ P.pre = [] ∧
  ((∃ G vp vf vr, v = .ref G ∧ GAt K CG (hide H a) G vp vf vr P ∧ ∀ r H', NewP CP H a dx P r H' → r.G = G → r.vp = vp → r.vf = vf → r.vr = vr → Q .non H') ∨
   (Dat K (hide H a) v (encProg P) ∧ ∀ r H', NewP CP H a dx P r H' → GAt K CG (hide H' a) r.G r.vp r.vf r.vr P → Q .non H'))
theorem ok_Process_init {kg : Nat} (F : Fun K "__init__" "Process.__init__" s_Process_init f fd) (c : ClsP K CP) (cg : ClsG K CG) (I : IsiG mg K CG) (T : Gb mg) (hk : kg + 1 ≤ k ∧ 1 ≤ k) (c_Ground : Mak P w K mg base kg "Ground" CG (spG (QGroundInit K CG))) (m_all_here : Met P w K mg base 1 CP "all_here" (spG (QAllHere K CP))) :
    FnOk P w K mg base CX0 (k + 1) f fd ["self", "program"] (spG (QProcInit K CP CG)) := by
  refine fn_W F sc_Process_init (fun vs H Q h => ?_) (fun cdv A outer s H E vs Q oo h => ?_)
  · obtain ⟨a, dx, v, G, rfl, _⟩ := h
    rfl
  · obtain ⟨a, dx, v, G, rfl, hin, hw, hz, hpre, hmode⟩ := h
    -- the ground
    let Q1 : VK := fun u H1 => ∃ q vp vf vr, u = .ref q ∧ H1 a = some (.ins CP dx []) ∧ Same H H1 ∧ GAt K CG (hide H1 a) q vp vf vr G ∧
      ∀ r H', NewP CP H a dx G r H' → GAt K CG (hide H' a) q vp vf vr G → r.G = q → r.vp = vp → r.vf = vf → r.vr = vr → Q .non H'
    refine ws_set 2 oo (WE.mono (Q := Q1) ?_ ?_)
    · refine we_of (pe_ifExp pt_w pe_w pe_w) ?_
      rcases hmode with ⟨q, vp, vf, vr, rfl, g, hQ⟩ | ⟨dv, hQ⟩
      · refine wt_of (pt_val pe_w (fun _ => rfl)) (we_isG (z := true) I T.isinstance (we_var 1 rfl ⟨.ref CG, ?_, I.own, true, rfl, iteT (we_var 1 rfl ?_)⟩))
        · obtain ⟨dxg, hg⟩ := g.ins
          exact I.ty _ _ _ _ (hide_same _ _ _ _ hg)
        · exact ⟨q, vp, vf, vr, rfl, hin, Same.refl _, g, fun r H' hn _ e1 e2 e3 e4 => hQ r H' hn e1 e2 e3 e4⟩
      · refine wt_of (pt_val pe_w (fun _ => rfl)) (we_isG (z := false) I T.isinstance (we_var 1 rfl ⟨.type "tuple", tyX_of (dv.mono (hide_same _ _)) rfl, I.tup, false, rfl, iteF ?_⟩))
        refine we_mak c_Ground oo hk.1 (wa_cons (we_var 1 rfl (wa_nil fun q dxg hq hdxg hne => ?_)))
        have hqa : q ≠ a := ne_of_none' hin hq
        have hda : dxg ≠ a := ne_of_none' hin hdxg
        have s0 : Same H (upd (upd H dxg (.own q)) q (.ins CG dxg [])) := (Same.new hdxg).trans (Same.new (by rw [upd_ne (Ne.symm hne)]; exact hq))
        have hdv : Dat K (hide (upd (upd H dxg (.own q)) q (.ins CG dxg [])) q) v (encProg G) := by
          refine (dv.mono (fun b o e => ?_) : Dat K (hide (upd (upd H dxg (.own q)) q (.ins CG dxg [])) q) v (encProg G))
          have e1 := hide_same _ _ _ _ e
          have hb : b ≠ q := ne_of_none e1 hq
          rw [hide_at hb, s0 _ _ e1]
        refine ⟨q, dxg, v, G, rfl, upd_same, hdv, hw, hz, hpre, fun vp vf vr H' g1 g2 g3 g4 s' => ⟨rfl, ?_⟩⟩
        have sHH' : Same H H' := fun b o e => by
          have hb : b ≠ q := ne_of_none e hq
          exact s' _ _ (by rw [hide_at hb, s0 _ _ e])
        -- the ground's data do not lean on a: they stand beside q, and a is not among the lists
        refine ⟨q, vp, vf, vr, rfl, sHH' _ _ hin, sHH', ⟨⟨dxg, by rw [hide_at hqa]; exact g1⟩, ?_, ?_, ?_⟩, fun r H' hn hg e1 e2 e3 e4 => hQ r H' hn (by rw [e1, e2, e3, e4]; exact hg)⟩
        · exact Dat.beside (sHH' _ _ hin) (g2.mono (hide_same _ _))
        · exact Dat.beside (sHH' _ _ hin) (g3.mono (hide_same _ _))
        · exact Dat.beside (sHH' _ _ hin) (g4.mono (hide_same _ _))
    · rintro u H1 ⟨q, vp, vf, vr, rfl, hin1, s1, g1, hQ⟩
      obtain ⟨dxg, hgq⟩ := g1.ins
      -- own_ground
      refine ws_sfh 0 c.cls c.ground rfl (by show 0 < 1000; decide) (we_var 2 rfl ⟨hin1, fun H2 e2 i2 => ?_⟩)
      have g2 : GAt K CG (hide H2 a) q vp vf vr G := by rw [e2]; exact g1
      have gq2 := hide_same _ _ _ _ (by rw [e2]; exact hgq : hide H2 a q = _)
      -- own_program
      refine ws_sfh 0 c.cls c.program rfl (by show 1 < 1000; decide) (we_vf 2 rfl cg.cls cg.program gq2 rfl ⟨i2, fun H3 e3 i3 => ?_⟩)
      have g3 : GAt K CG (hide H3 a) q vp vf vr G := by rw [e3]; exact g2
      have gq3 := hide_same _ _ _ _ (by rw [e3, e2]; exact hgq : hide H3 a q = _)
      -- own_first
      refine ws_sfh 0 c.cls c.first rfl (by show 2 < 1000; decide) (we_vf 2 rfl cg.cls cg.first gq3 rfl ⟨i3, fun H4 e4 i4 => ?_⟩)
      have g4 : GAt K CG (hide H4 a) q vp vf vr G := by rw [e4]; exact g3
      have gq4 := hide_same _ _ _ _ (by rw [e4, e3, e2]; exact hgq : hide H4 a q = _)
      -- own_rows
      refine ws_sfh 0 c.cls c.rows rfl (by show 3 < 1000; decide) (we_vf 2 rfl cg.cls cg.rows gq4 rfl ⟨i4, fun H5 e5 i5 => ?_⟩)
      have g5 : GAt K CG (hide H5 a) q vp vf vr G := by rw [e5]; exact g4
      have t5 : Same (hide H a) (hide H5 a) := by rw [e5, e4, e3, e2]; exact hide_mono s1
      -- own_counts
      have hdl := hz.doors
      refine ws_sfh 0 c.cls c.counts rfl (by show 4 < 1000; decide) (we_en (en_lc oo (lc_mk (xs := G.doors) (enc := encPair) (p := fun _ => true) (f := fun _ => .int 0) (ρ := [some (.raw (.ref a)), none, none, none]) (ρ' := fun d => [some (.raw (.ref a)), none, none, some (encPair d)]) [("door", 3)] (blkOk_by rfl) (si_tup (ee_ix (ee_fld (C := CP) (ee_var 0 rfl) ⟨_, _, vp, i5, c.cls, c.program, rfl, g5.prog.mono (hide_same _ _)⟩) ee_int rfl))
        (fun _ _ _ _ _ => pg_name (i := 3) oo.nd rfl (Or.inl rfl)) (fun x hx => tg_name) (fun _ _ _ _ _ x hx => ets_nil) (fun _ _ _ _ _ x hx hp => ee_int) (own1 rfl) (fun x hx => rfl) (sz8 hdl))) (.cons (.raw _) (.skip (.skip (.skip .nil)))) fun cA wc H6 fc6 s6 h6 d6 => ⟨s6 _ _ i5, fun H7 e7 i7 => ?_⟩)
      have hwc : wc = (st0 G).counts.map V.int := by
        have e : (G.doors.filter fun _ => true).map (fun _ => D.int 0) = ((st0 G).counts).map D.int := by
          rw [List.filter_eq_self.mpr (fun _ _ => rfl)]
          simp [st0, List.map_const']
        rw [e] at d6
        exact d6.ints
      subst hwc
      have hca : cA ≠ a := ne_of_none' i5 fc6
      have t7 : Same (hide H5 a) (hide H7 a) := by rw [e7]; exact hide_mono s6
      have c7 : hide H7 a cA = some (.lst ((st0 G).counts.map V.int)) := by rw [e7, hide_at hca]; exact h6
      -- own_opened
      refine ws_sfh 0 c.cls c.opened rfl (by show 5 < 1000; decide) (we_of (pe_lst pa_nil) ⟨Nat.zero_le _, fun oA fo7 => ⟨(upd_ne (ne_of_none i7 fo7)).trans i7, fun H8 e8 i8 => ?_⟩⟩)
      have hoa : oA ≠ a := ne_of_none' i7 fo7
      have t8 : Same (hide H7 a) (hide H8 a) := by rw [e8]; exact hide_mono (Same.new fo7)
      have o8 : hide H8 a oA = some (.lst []) := by rw [e8, hide_at hoa]; exact upd_same
      -- own_public
      obtain ⟨qf, wf, rfl, hqf, hdf⟩ : ∃ q ws, vf = .ref q ∧ hide H8 a q = some (.lst ws) ∧ DatAll K (hide H8 a) ws ((firstM G).map D.str) := by
        have := (g5.mono (t7.trans t8)).first
        cases this with | lst h t => exact ⟨_, _, rfl, h, t⟩
      have := hdf.strs
      subst this
      refine ws_sfh 0 c.cls c.pub rfl (by show 6 < 1000; decide) (we_list T.list (we_vf 0 rfl c.cls c.first i8 rfl ⟨qf, _, rfl, hide_same _ _ _ _ hqf, fun pA fp8 => ⟨(upd_ne (ne_of_none i8 fp8)).trans i8, fun H9 e9 i9 => ?_⟩⟩))
      have hpa : pA ≠ a := ne_of_none' i8 fp8
      have t9 : Same (hide H8 a) (hide H9 a) := by rw [e9]; exact hide_mono (Same.new fp8)
      have p9 : hide H9 a pA = some (.lst ((firstM G).map V.str)) := by rw [e9, hide_at hpa]; exact upd_same
      -- own_deep
      refine ws_sfh 0 c.cls c.deep rfl (by show 7 < 1000; decide) (we_of (pe_lst pa_nil) ⟨Nat.zero_le _, fun dA fd9 => ⟨(upd_ne (ne_of_none i9 fd9)).trans i9, fun H10 e10 i10 => ?_⟩⟩)
      have hda : dA ≠ a := ne_of_none' i9 fd9
      have t10 : Same (hide H9 a) (hide H10 a) := by rw [e10]; exact hide_mono (Same.new fd9)
      have d10 : hide H10 a dA = some (.lst []) := by rw [e10, hide_at hda]; exact upd_same
      -- own_slots
      refine ws_sfh 0 c.cls c.slots rfl (by show 8 < 1000; decide) (we_of pe_dnewK fun sA fs10 => ⟨(upd_ne (ne_of_none i10 fs10)).trans i10, fun H11 e11 i11 => ?_⟩)
      have hsa : sA ≠ a := ne_of_none' i10 fs10
      have t11 : Same (hide H10 a) (hide H11 a) := by rw [e11]; exact hide_mono (Same.new fs10)
      have s11 : hide H11 a sA = some (.dK []) := by rw [e11, hide_at hsa]; exact upd_same
      have t511 : Same (hide H5 a) (hide H11 a) := (((t7.trans t8).trans t9).trans t10).trans t11
      have g11 := g5.mono t511
      -- own_here
      refine ws_sfh 0 c.cls c.here rfl (by show 9 < 1000; decide) (we_met0 m_all_here oo hk.2 (we_var 0 rfl ⟨a, rfl, ⟨_, _, i11, rfl⟩, a, dx, _, _, oA, vr, [], G, rfl, i11, rfl, rfl, rfl, g11.first.mono (hide_same _ _), g11.rows.mono (hide_same _ _), hide_same _ _ _ _ (((t9.trans t10).trans t11) _ _ o8), hw, hz, (fun k hk => by cases hk), fun hA H12 fh11 s12 h12 => ⟨s12 _ _ i11, fun H13 e13 i13 => ?_⟩⟩))
      have hha : hA ≠ a := ne_of_none' i11 fh11
      have t13 : Same (hide H11 a) (hide H13 a) := by rw [e13]; exact hide_mono s12
      have hh13 : hide H13 a hA = some (.dK (hereD (hereM G []))) := by rw [e13, hide_at hha]; exact h12
      have back : ∀ {Hx : Hp} {b : Addr}, Same (hide H a) (hide Hx a) → b ≠ a → Hx b = none → H b = none := fun {Hx b} t hb hx => by
        have := t.free (l := b) (by rw [hide_at hb]; exact hx)
        rwa [hide_at hb] at this
      have t6 : Same (hide H a) (hide H6 a) := t5.trans (hide_mono s6)
      have tt7 := t5.trans t7
      have tt8 := tt7.trans t8
      have tt9 := tt8.trans t9
      have tt10 := tt9.trans t10
      have tt11 := tt10.trans t11
      let r : PR := ⟨dx, q, cA, oA, pA, dA, sA, hA, vp, .ref qf, vr⟩
      have up : ∀ {b : Addr} {o : HO}, hide H11 a b = some o → H13 b = some o := fun h => hide_same _ _ _ _ (t13 _ _ h)
      refine ws_nil (hQ r H13 ⟨⟨i13, up (((((t8.trans t9).trans t10).trans t11)) _ _ c7), up (((t9.trans t10).trans t11) _ _ o8), up ((t10.trans t11) _ _ p9), up (t11 _ _ d10), up s11, hide_same _ _ _ _ hh13⟩, (tt11.trans t13).trans (hide_same _ _), ?_, ?_⟩ (g11.mono t13) rfl rfl rfl rfl)
      · intro x hx
        have hx' : x = cA ∨ x = oA ∨ x = pA ∨ x = dA ∨ x = sA := by simpa [ownP, r] using hx
        rcases hx' with rfl | rfl | rfl | rfl | rfl
        · exact back t5 hca fc6
        · exact back tt7 hoa fo7
        · exact back tt8 hpa fp8
        · exact back tt9 hda fd9
        · exact back tt10 hsa fs10
      · have n1 : oA ≠ cA := ne_of_none' (hide_same _ _ _ _ c7) fo7
        have n2 : pA ≠ cA := ne_of_none' (hide_same _ _ _ _ (t8 _ _ c7)) fp8
        have n3 : pA ≠ oA := ne_of_none' (hide_same _ _ _ _ o8) fp8
        have n4 : dA ≠ cA := ne_of_none' (hide_same _ _ _ _ ((t8.trans t9) _ _ c7)) fd9
        have n5 : dA ≠ oA := ne_of_none' (hide_same _ _ _ _ (t9 _ _ o8)) fd9
        have n6 : dA ≠ pA := ne_of_none' (hide_same _ _ _ _ p9) fd9
        show [cA, oA, pA, dA].Nodup
        simp [Ne.symm n1, Ne.symm n2, Ne.symm n3, Ne.symm n4, Ne.symm n5, Ne.symm n6]
end
end K74

set_option Elab.async false
set_option linter.all false
set_option maxRecDepth 100000
set_option maxHeartbeats 4000000
/-! K74.KP5: twin, come, go. -/
namespace K74
open PySem PySem.Spec PyProof.Rows L2

def hideL (H : Hp) (L : List Addr) : Hp := fun b => if b ∈ L then none else H b
theorem hideL_at {H : Hp} {L : List Addr} {b : Addr} (h : b ∉ L) : hideL H L b = H b := by unfold hideL; rw [if_neg h]
theorem hideL_in {H : Hp} {L : List Addr} {b : Addr} (h : b ∈ L) : hideL H L b = none := by unfold hideL; rw [if_pos h]
theorem hideL_same {H : Hp} {L : List Addr} : Same (hideL H L) H := fun b o e => by
  unfold hideL at e
  split at e
  · cases e
  · exact e
theorem hideL_mono {H H' : Hp} {L : List Addr} (s : Same H H') : Same (hideL H L) (hideL H' L) := fun b o e => by
  unfold hideL at e ⊢
  split at e
  · cases e
  · rename_i n
    rw [if_neg n]
    exact s _ _ e
theorem hideL_upd {H : Hp} {L : List Addr} {b : Addr} {o : HO} (h : b ∈ L) : hideL (upd H b o) L = hideL H L := by
  funext c
  unfold hideL
  by_cases hc : c ∈ L
  · rw [if_pos hc, if_pos hc]
  · rw [if_neg hc, if_neg hc, upd_ne (fun e => hc (by rw [e]; exact h))]
theorem hideL_of {B H : Hp} {L : List Addr} (s : Same B H) (h : ∀ x ∈ L, B x = none) : Same B (hideL H L) := fun b o e => by
  have hb : b ∉ L := fun hm => by rw [h b hm] at e; cases e
  rw [hideL_at hb]
  exact s _ _ e
theorem hideL_one {H : Hp} {a : Addr} {L : List Addr} (h : a ∈ L) : Same (hideL H L) (hide H a) := fun b o e => by
  have hb : b ∉ L := fun hm => by rw [hideL_in hm] at e; cases e
  rw [hide_at (fun z => hb (by rw [z]; exact h))]
  rwa [hideL_at hb] at e
theorem hideL_two {H H' : Hp} {L : List Addr} (s : Same (hideL H L) H') : Same (hideL H L) (hideL H' L) := hideL_of s fun x hx => hideL_in hx
abbrev OW (a : Addr) (r : PR) : List Addr := a :: ownP r

section
variable {X : Cx} {e a ob : Expr} {rest : List Stmt} {σ : L2.St} {H B : Hp} {Q : VK} {pos p p1 p' tpos apos cpos : Pos} {Dn : Ends} {k kk : Nat} {y x f : S} {C l dx CG : Addr} {fs : List (S × V)} {elts ifs : List Expr} {kx vx : Expr} {scope : Scope}
/-- dict(d) -/
theorem we_dictOf (hm : X.mg "dict" = none) (ha : WE X a σ H fun v H1 => ∃ q kvs, v = .ref q ∧ H1 q = some (.dK kvs) ∧ ∀ l, H1 l = none → Q (.ref l) (upd H1 l (.dK kvs))) (hg : Gl X "dict" := by rfl) (hs : starEach [a] X.env = (false, eval a X.env) :: starEach [] X.env := by rfl) : WE X (.Call (.Name "dict" p) [a] [] pos) σ H Q :=
  we_of (pe_callTy call_dictD hg hm (by decide +kernel) (pa_cons pe_w pa_nil hs) (he := hs)) (ha.mono fun v H1 ⟨q, ys, e, h1, h2⟩ => ⟨q, ys, by rw [e], .inl h1, h2⟩)
/-- name = {.. for .. in d.items() ..}, d empty -/
theorem ws_setNoItems (i2 : Nat) {own : List (S × Nat)} {d : Addr} (oo : Ok X k) (ok : BlkOk X.N X.env.scope scope own) (hd : H d = some (.dK [])) (he : ∀ od, WE X ob σ (upd H d (.frz od (.dK []))) fun v H' => v = .ref d ∧ H' = upd H d (.frz od (.dK []))) (hQ : ∀ l, H l = none → WS X rest Dn (σ.set i2 (some (.ref l))) (upd H l (.dK [])))
    (hi2 : X.N[i2]? = some y := by rfl) (hyl : X.env.scope.names.lookup y = some .local := by rfl)
    (hs : ∀ x, foldedSetIterable (.Call (.Attribute ob "items" apos) [] [] cpos) X.env x = pure x := by intro _; rfl) (hbase : attributeBase ob "items" X.env (eval ob X.env) = eval ob X.env := by rfl) (hline : (apos.endLine == cpos.line) = true := by rfl)
    (hsw : swapsWith (.DictComp kx vx [⟨.Tuple elts kk tpos, .Call (.Attribute ob "items" apos) [] [] cpos, ifs, 0⟩] scope p) (some (.Name y p')) pos.line X.env = pure true := by exact sw_trueD rfl rfl rfl (by decide +kernel)) :
    WS X (.Assign [.Name y p'] (.DictComp kx vx [⟨.Tuple elts kk tpos, .Call (.Attribute ob "items" apos) [] [] cpos, ifs, 0⟩] scope p) pos :: rest) Dn σ H := by
  have hob : ∀ od, PE X ob (fun σ' H' Q' => σ' = σ ∧ H' = upd H d (.frz od (.dK [])) ∧ Q' (.ref d) H') := fun od => ⟨fun pins s σ' H' Q' I ⟨e1, e2, q⟩ => by
    subst e1 e2
    exact thn ((he od).run pins s I) fun u s' ⟨v, H2, I2, r, ev, eH⟩ => ⟨.ref d, _, eH ▸ I2, ev ▸ r, q⟩⟩
  have hps : ∀ od, PS X (.Assign [.Name y p'] (.DictComp kx vx [⟨.Tuple elts kk tpos, .Call (.Attribute ob "items" apos) [] [] cpos, ifs, 0⟩] scope p) pos) _ := fun od => ps_setDc (i := i2) oo.calm oo.nd hi2 hyl hsw (pi_items (hob od) hbase hline) ok (fun _ _ _ _ _ => pg_no) (fun _ _ _ _ _ => pts_no) (fun _ _ _ _ _ => pe_no) (fun _ _ _ _ _ => pe_no) hs
  refine ws_cons (t := tLock fun D σ' H' => ∃ od, tAsg (tDc (iItems (fun σ' H' Q' => σ' = σ ∧ H' = upd H d (.frz od (.dK [])) ∧ Q' (.ref d) H')) (fun _ _ _ _ => False) (fun _ _ _ => False) (fun _ _ _ => False) (fun _ _ _ => False) (own.map (·.2))) (gName i2) D σ' H')
    (ps_lock ⟨fun pins s σ' H' D I ⟨od, q⟩ => (hps od).run pins s σ' H' D I q⟩) ?_
  refine ⟨d, .dK [], hd, trivial, fun od => ⟨od, ?_⟩⟩
  obtain ⟨_, r⟩ := none_read (σ := σ) (od := od) (vs := own.map (·.2)) (Q := fun v H' => WS X rest Dn (σ.set i2 (some v)) H') hQ hd
  exact ⟨rfl, rfl, r⟩
end

section
variable {P : Program} {w : World} {K : PySem.W.Frag} {mg : Str → Option Value} {base : Heap} {f : Addr} {fd : FuncData} {k : Nat} {CP CG : Addr}
abbrev s_twin : Stmt := inClass (top 37) 2
theorem sc_twin : FnScope ["self", "other"] ["self"] (defScope s_twin) := ⟨rfl, rfl, rfl, by decide +kernel, rfl, by decide +kernel, by decide +kernel⟩
/-- a new process, its cells new, its ground the same -/
structure TwinP (CP : Addr) (H : Hp) (r : PR) (st : PSt) (hs : List S) (b : Addr) (r' : PR) (H' : Hp) : Prop where
  at_ : PAt CP H' b r' st hs
  same : Same H H'
  new : H b = none
  free : ∀ x ∈ ownP r' ++ [r'.sA], H x = none
  nd : (ownP r').Nodup
  G : r'.G = r.G
  vp : r'.vp = r.vp
  vf : r'.vf = r.vf
  vr : r'.vr = r.vr
  hA : r'.hA = r.hA
def QTwin (K : PySem.W.Frag) (CP CG : Addr) : List V → Hp → VK → Prop := fun vs H Q => ∃ (a : Addr) (r : PR) (st : PSt) (hs : List S) (P : ProgD), vs = [.ref a] ∧ PAt CP H a r st hs ∧ GAt K CG H r.G r.vp r.vf r.vr P ∧ WF P ∧ SZ P ∧ P.pre = [] ∧ ∀ b r' H', TwinP CP H r st hs b r' H' → Q (.ref b) H'
theorem ok_twin {kp : Nat} (F : Fun K "twin" "Process.twin" s_twin f fd) (c : ClsP K CP) (T : Gb mg) (hk : kp + 1 ≤ k) (c_Process : Mak P w K mg base kp "Process" CP (spG (QProcInit K CP CG))) : FnOk P w K mg base CX0 (k + 1) f fd ["self"] (spG (QTwin K CP CG)) := by
  refine fn_W F sc_twin (fun vs H Q h => ?_) (fun cdv A outer s H E vs Q oo h => ?_)
  · obtain ⟨a, r, st, hs, G, rfl, _⟩ := h
    rfl
  · obtain ⟨a, r, st, hs, G, rfl, p, g, hw, hz, hpre, hQ⟩ := h
    refine ws_set 1 oo (we_mak c_Process oo hk (wa_cons (we_fp 0 c p rfl c.ground rfl (wa_nil fun b dx hb hdx hne => ?_))))
    have s0 : Same H (upd (upd H dx (.own b)) b (.ins CP dx [])) := (Same.new hdx).trans (Same.new (by rw [upd_ne (Ne.symm hne)]; exact hb))
    have s0' : Same H (hide (upd (upd H dx (.own b)) b (.ins CP dx [])) b) := fun x o e => by
      rw [hide_at (ne_of_none e hb)]
      exact s0 _ _ e
    refine ⟨b, dx, .ref r.G, G, rfl, upd_same, hw, hz, hpre, .inl ⟨r.G, r.vp, r.vf, r.vr, rfl, g.mono s0', fun r2 H2 N q1 q2 q3 q4 => ⟨rfl, ?_⟩⟩⟩
    have s2 : Same H H2 := s0'.trans N.same
    have i2 := N.at_.ins
    have hba : b ≠ a := ne_of_none' p.ins hb
    have p2 := p.mono s2
    -- what stands of self, beside b
    have pin : ∀ {H' : Hp}, Same (hide H2 b) (hide H' b) → H' a = some (.ins CP r.dx (fsP r)) := fun t => hide_same _ _ _ _ (t _ _ (by rw [hide_at (Ne.symm hba)]; exact p2.ins))
    have lb : ∀ {x : Addr} {o : HO}, H x = some o → hide H2 b x = some o := fun h => by rw [hide_at (ne_of_none h hb)]; exact s2 _ _ h
    have hup : ∀ {H' : Hp} {x : Addr} {o : HO}, Same (hide H2 b) (hide H' b) → H x = some o → H' x = some o := fun t h => hide_same _ _ _ _ (t _ _ (lb h))
    -- own_counts
    refine ws_sfh 1 c.cls c.counts rfl (by show 10 < 1000; decide) (we_list T.list (we_vf 0 rfl c.cls c.counts (pin (Same.refl _)) rfl ⟨r.cA, _, rfl, hup (Same.refl _) p.counts, fun cA fc => ⟨(upd_ne (ne_of_none i2 fc)).trans i2, fun H3 e3 i3 => ?_⟩⟩))
    have i3 : H3 b = some (.ins CP r2.dx (fsP { r2 with cA := cA })) := i3
    have hcb : cA ≠ b := ne_of_none' i2 fc
    have t3 : Same (hide H2 b) (hide H3 b) := by rw [e3]; exact hide_mono (Same.new fc)
    have c3 : hide H3 b cA = some (.lst (st.counts.map V.int)) := by rw [e3, hide_at hcb]; exact upd_same
    -- own_opened
    refine ws_sfh 1 c.cls c.opened rfl (by show 10 < 1000; decide) (we_list T.list (we_vf 0 rfl c.cls c.opened (pin t3) rfl ⟨r.oA, _, rfl, hup t3 p.opened, fun oA fo => ⟨(upd_ne (ne_of_none i3 fo)).trans i3, fun H4 e4 i4 => ?_⟩⟩))
    have i4 : H4 b = some (.ins CP r2.dx (fsP { r2 with cA := cA, oA := oA })) := i4
    have hob : oA ≠ b := ne_of_none' i3 fo
    have t34 : Same (hide H3 b) (hide H4 b) := by rw [e4]; exact hide_mono (Same.new fo)
    have t4 := t3.trans t34
    have o4 : hide H4 b oA = some (.lst (st.opened.map vNat)) := by rw [e4, hide_at hob]; exact upd_same
    -- own_public
    refine ws_sfh 1 c.cls c.pub rfl (by show 10 < 1000; decide) (we_list T.list (we_vf 0 rfl c.cls c.pub (pin t4) rfl ⟨r.pA, _, rfl, hup t4 p.pub, fun pA fp => ⟨(upd_ne (ne_of_none i4 fp)).trans i4, fun H5 e5 i5 => ?_⟩⟩))
    have i5 : H5 b = some (.ins CP r2.dx (fsP { r2 with cA := cA, oA := oA, pA := pA })) := i5
    have hpb : pA ≠ b := ne_of_none' i4 fp
    have t45 : Same (hide H4 b) (hide H5 b) := by rw [e5]; exact hide_mono (Same.new fp)
    have t5 := t4.trans t45
    have p5 : hide H5 b pA = some (.lst (st.pub.map V.str)) := by rw [e5, hide_at hpb]; exact upd_same
    -- own_deep
    refine ws_sfh 1 c.cls c.deep rfl (by show 10 < 1000; decide) (we_list T.list (we_vf 0 rfl c.cls c.deep (pin t5) rfl ⟨r.dA, _, rfl, hup t5 p.deep, fun dA fd => ⟨(upd_ne (ne_of_none i5 fd)).trans i5, fun H6 e6 i6 => ?_⟩⟩))
    have i6 : H6 b = some (.ins CP r2.dx (fsP { r2 with cA := cA, oA := oA, pA := pA, dA := dA })) := i6
    have hdb : dA ≠ b := ne_of_none' i5 fd
    have t56 : Same (hide H5 b) (hide H6 b) := by rw [e6]; exact hide_mono (Same.new fd)
    have t6 := t5.trans t56
    have d6 : hide H6 b dA = some (.lst (st.deep.map V.str)) := by rw [e6, hide_at hdb]; exact upd_same
    -- own_slots
    refine ws_sfh 1 c.cls c.slots rfl (by show 10 < 1000; decide) (we_dictOf T.dict (we_vf 0 rfl c.cls c.slots (pin t6) rfl ⟨r.sA, _, rfl, hup t6 p.slots, fun sA fs => ⟨(upd_ne (ne_of_none i6 fs)).trans i6, fun H7 e7 i7 => ?_⟩⟩))
    have i7 : H7 b = some (.ins CP r2.dx (fsP { r2 with cA := cA, oA := oA, pA := pA, dA := dA, sA := sA })) := i7
    have hsb : sA ≠ b := ne_of_none' i6 fs
    have t67 : Same (hide H6 b) (hide H7 b) := by rw [e7]; exact hide_mono (Same.new fs)
    have t7 := t6.trans t67
    have s7 : hide H7 b sA = some (.dK []) := by rw [e7, hide_at hsb]; exact upd_same
    -- own_here
    refine ws_sfh 1 c.cls c.here rfl (by show 10 < 1000; decide) (we_vf 0 rfl c.cls c.here (pin t7) rfl ⟨i7, fun H8 e8 i8 => ?_⟩)
    let r' : PR := { r2 with cA := cA, oA := oA, pA := pA, dA := dA, sA := sA, hA := r.hA }
    have i8 : H8 b = some (.ins CP r'.dx (fsP r')) := i8
    have t78 : Same (hide H7 b) (hide H8 b) := by rw [e8]; exact Same.refl _
    have t8 := t7.trans t78
    have sH2 : Same H (hide H2 b) := fun x o e => lb e
    have back : ∀ {Hx : Hp} {x : Addr}, Same (hide H2 b) (hide Hx b) → x ≠ b → Hx x = none → H x = none := fun {Hx x} t hx hn => (sH2.trans t).free (l := x) (by rw [hide_at hx]; exact hn)
    have up : ∀ {x : Addr} {o : HO}, hide H7 b x = some o → H8 x = some o := fun h => hide_same _ _ _ _ (t78 _ _ h)
    refine ws_ret (we_var 1 rfl (hQ b r' H8 ⟨⟨i8, up ((((t34.trans t45).trans t56).trans t67) _ _ c3), up (((t45.trans t56).trans t67) _ _ o4), up ((t56.trans t67) _ _ p5), up (t67 _ _ d6), up s7, hup t8 p.here⟩, (sH2.trans t8).trans (hide_same _ _), hb, ?_, ?_, q1, q2, q3, q4, rfl⟩))
    · intro x hx
      have hx' : x = cA ∨ x = oA ∨ x = pA ∨ x = dA ∨ x = sA := by simpa [ownP, r'] using hx
      rcases hx' with rfl | rfl | rfl | rfl | rfl
      · exact back (Same.refl _) hcb fc
      · exact back t3 hob fo
      · exact back t4 hpb fp
      · exact back t5 hdb fd
      · exact back t6 hsb fs
    · have n1 : oA ≠ cA := ne_of_none' (hide_same _ _ _ _ c3) fo
      have n2 : pA ≠ cA := ne_of_none' (hide_same _ _ _ _ (t34 _ _ c3)) fp
      have n3 : pA ≠ oA := ne_of_none' (hide_same _ _ _ _ o4) fp
      have n4 : dA ≠ cA := ne_of_none' (hide_same _ _ _ _ ((t34.trans t45) _ _ c3)) fd
      have n5 : dA ≠ oA := ne_of_none' (hide_same _ _ _ _ (t45 _ _ o4)) fd
      have n6 : dA ≠ pA := ne_of_none' (hide_same _ _ _ _ p5) fd
      show [cA, oA, pA, dA].Nodup
      simp [Ne.symm n1, Ne.symm n2, Ne.symm n3, Ne.symm n4, Ne.symm n5, Ne.symm n6]
end
end K74

set_option Elab.async false
set_option linter.all false
set_option maxRecDepth 100000
set_option maxHeartbeats 4000000
/-! K74.KP6: go, come, open_door, close_door, do. -/
namespace K74
open PySem PySem.Spec PyProof.Rows L2

section
variable {X : Cx} {c : Expr} {rest body orelse : List Stmt} {σ : L2.St} {H : Hp} {pos : Pos} {Dn : Ends}
theorem ws_ifM (M : L2.St → Hp → Prop) (h : WT X c σ H fun z H1 => if z = true then WS X body { Dn with nx := M } σ H1 else WS X orelse { Dn with nx := M } σ H1) (k : ∀ σ' H', M σ' H' → WS X rest Dn σ' H') : WS X (.If c body orelse pos :: rest) Dn σ H :=
  ws_if (h.mono fun z H1 q => by
    cases z with
    | true => exact WS.mono q k (fun _ _ h => h) (fun _ _ h => h) (fun _ _ h => h)
    | false => exact WS.mono q k (fun _ _ h => h) (fun _ _ h => h) (fun _ _ h => h))
end
section
variable {CP : Addr} {H : Hp} {a : Addr} {r : PR} {st : PSt} {hs : List S}
theorem PAt.ne (p : PAt CP H a r st hs) : a ≠ r.cA ∧ a ≠ r.oA ∧ a ≠ r.pA ∧ a ≠ r.dA ∧ a ≠ r.sA ∧ a ≠ r.hA ∧ r.sA ≠ r.cA ∧ r.sA ≠ r.oA ∧ r.sA ≠ r.pA ∧ r.sA ≠ r.dA ∧ r.hA ≠ r.cA ∧ r.hA ≠ r.oA ∧ r.hA ≠ r.pA ∧ r.hA ≠ r.dA :=
  ⟨ne_of p.ins p.counts (by intro e; cases e), ne_of p.ins p.opened (by intro e; cases e), ne_of p.ins p.pub (by intro e; cases e), ne_of p.ins p.deep (by intro e; cases e), ne_of p.ins p.slots (by intro e; cases e), ne_of p.ins p.here (by intro e; cases e),
    ne_of p.slots p.counts (by intro e; cases e), ne_of p.slots p.opened (by intro e; cases e), ne_of p.slots p.pub (by intro e; cases e), ne_of p.slots p.deep (by intro e; cases e),
    ne_of p.here p.counts (by intro e; cases e), ne_of p.here p.opened (by intro e; cases e), ne_of p.here p.pub (by intro e; cases e), ne_of p.here p.deep (by intro e; cases e)⟩
theorem nd_ne (nd : (ownP r).Nodup) : r.cA ≠ r.oA ∧ r.cA ≠ r.pA ∧ r.cA ≠ r.dA ∧ r.oA ≠ r.pA ∧ r.oA ≠ r.dA ∧ r.pA ≠ r.dA := by
  have h : [r.cA, r.oA, r.pA, r.dA].Nodup := nd
  simp only [List.nodup_cons, List.mem_cons, List.not_mem_nil, or_false, not_or, not_false_eq_true, List.nodup_nil, and_true] at h
  exact ⟨h.1.1, h.1.2.1, h.1.2.2, h.2.1.1, h.2.1.2, h.2.2⟩
theorem PAt.setCounts (p : PAt CP H a r st hs) (nd : (ownP r).Nodup) {cs : List Int} : PAt CP (upd H r.cA (.lst (cs.map V.int))) a r { st with counts := cs } hs := by
  obtain ⟨a1, a2, a3, a4, a5, a6, s1, s2, s3, s4, h1, h2, h3, h4⟩ := p.ne
  obtain ⟨n1, n2, n3, n4, n5, n6⟩ := nd_ne nd
  exact ⟨by rw [upd_ne a1]; exact p.ins, upd_same, by rw [upd_ne (Ne.symm n1)]; exact p.opened, by rw [upd_ne (Ne.symm n2)]; exact p.pub, by rw [upd_ne (Ne.symm n3)]; exact p.deep, by rw [upd_ne s1]; exact p.slots, by rw [upd_ne h1]; exact p.here⟩
theorem PAt.setOpened (p : PAt CP H a r st hs) (nd : (ownP r).Nodup) {os : List Nat} : PAt CP (upd H r.oA (.lst (os.map vNat))) a r { st with opened := os } hs := by
  obtain ⟨a1, a2, a3, a4, a5, a6, s1, s2, s3, s4, h1, h2, h3, h4⟩ := p.ne
  obtain ⟨n1, n2, n3, n4, n5, n6⟩ := nd_ne nd
  exact ⟨by rw [upd_ne a2]; exact p.ins, by rw [upd_ne n1]; exact p.counts, upd_same, by rw [upd_ne (Ne.symm n4)]; exact p.pub, by rw [upd_ne (Ne.symm n5)]; exact p.deep, by rw [upd_ne s2]; exact p.slots, by rw [upd_ne h2]; exact p.here⟩
theorem PAt.setPub (p : PAt CP H a r st hs) (nd : (ownP r).Nodup) {ps : List S} : PAt CP (upd H r.pA (.lst (ps.map V.str))) a r { st with pub := ps } hs := by
  obtain ⟨a1, a2, a3, a4, a5, a6, s1, s2, s3, s4, h1, h2, h3, h4⟩ := p.ne
  obtain ⟨n1, n2, n3, n4, n5, n6⟩ := nd_ne nd
  exact ⟨by rw [upd_ne a3]; exact p.ins, by rw [upd_ne n2]; exact p.counts, by rw [upd_ne n4]; exact p.opened, upd_same, by rw [upd_ne (Ne.symm n6)]; exact p.deep, by rw [upd_ne s3]; exact p.slots, by rw [upd_ne h3]; exact p.here⟩
theorem PAt.setDeep (p : PAt CP H a r st hs) (nd : (ownP r).Nodup) {ps : List S} : PAt CP (upd H r.dA (.lst (ps.map V.str))) a r { st with deep := ps } hs := by
  obtain ⟨a1, a2, a3, a4, a5, a6, s1, s2, s3, s4, h1, h2, h3, h4⟩ := p.ne
  obtain ⟨n1, n2, n3, n4, n5, n6⟩ := nd_ne nd
  exact ⟨by rw [upd_ne a4]; exact p.ins, by rw [upd_ne n3]; exact p.counts, by rw [upd_ne n5]; exact p.opened, by rw [upd_ne n6]; exact p.pub, upd_same, by rw [upd_ne s4]; exact p.slots, by rw [upd_ne h4]; exact p.here⟩
theorem PAt.setHere (p : PAt CP H a r st hs) {h' : Addr} {hs' : List S} (hh : H h' = some (.dK (hereD hs'))) : PAt CP (upd H a (.ins CP r.dx (fsP { r with hA := h' }))) a { r with hA := h' } st hs' := by
  obtain ⟨a1, a2, a3, a4, a5, a6, s1, s2, s3, s4, h1, h2, h3, h4⟩ := p.ne
  have ah : h' ≠ a := ne_of hh p.ins (by intro e; cases e)
  exact ⟨upd_same, by rw [upd_ne (Ne.symm a1)]; exact p.counts, by rw [upd_ne (Ne.symm a2)]; exact p.opened, by rw [upd_ne (Ne.symm a3)]; exact p.pub, by rw [upd_ne (Ne.symm a4)]; exact p.deep, by rw [upd_ne (Ne.symm a5)]; exact p.slots, by rw [upd_ne ah]; exact hh⟩
theorem ow_c : r.cA ∈ OW a r := by simp [OW, ownP]
theorem ow_o : r.oA ∈ OW a r := by simp [OW, ownP]
theorem ow_p : r.pA ∈ OW a r := by simp [OW, ownP]
theorem ow_d : r.dA ∈ OW a r := by simp [OW, ownP]
theorem ow_a : a ∈ OW a r := by simp [OW]
theorem sameUpd {B : Hp} {L : List Addr} {H' : Hp} {b : Addr} {o : HO} (s : Same (hideL B L) H') (hb : b ∈ L) : Same (hideL B L) (upd H' b o) := hideOf s (hideL_in hb)
end

section
variable {P : Program} {w : World} {K : PySem.W.Frag} {mg : Str → Option Value} {base : Heap} {f : Addr} {fd : FuncData} {k : Nat} {CP CG : Addr}
abbrev s_go : Stmt := inClass (top 37) 18
theorem sc_go : FnScope ["self", "slots", "name", "place", "answer"] ["self"] (defScope s_go) := ⟨rfl, rfl, rfl, by decide +kernel, rfl, by decide +kernel, by decide +kernel⟩
def goM (hs : List S) (st : PSt) : PSt := { st with pub := st.pub.filter fun n => decide (n ∈ hs), deep := st.deep.filter fun n => decide (n ∈ hs) }
def QGo (CP : Addr) : List V → Hp → VK → Prop := fun vs H Q => ∃ (a : Addr) (r : PR) (st : PSt) (hs : List S), vs = [.ref a] ∧ PAt CP H a r st hs ∧ st.pub.length ≤ 64 ∧ st.deep.length ≤ 64 ∧
  ∀ p' d' s' H', PAt CP H' a { r with pA := p', dA := d', sA := s' } (goM hs st) hs → Same (hide H a) H' → H p' = none → H d' = none → H s' = none → p' ≠ d' → Q .non H'
theorem ok_go (F : Fun K "go" "Process.go" s_go f fd) (c : ClsP K CP) (m_is_there : Met P w K mg base 1 CP "is_there" (spP K (RIsThere CP))) : FnOk P w K mg base CX0 2 f fd ["self"] (spG (QGo CP)) := by
  refine fn_W F sc_go (fun vs H Q h => ?_) (fun cdv A outer s H E vs Q oo h => ?_)
  · obtain ⟨a, r, st, hs, rfl, _⟩ := h
    rfl
  · obtain ⟨a, r, st, hs, rfl, p, hpl, hdl, hQ⟩ := h
    -- own_public
    refine ws_sfh 0 c.cls c.pub rfl (by show 10 < 1000; decide) (we_en (en_lc oo (lc_mk (xs := st.pub) (enc := D.str) (p := fun n => decide (n ∈ hs)) (f := D.str) (ρ := [some (.raw (.ref a)), none, none, none, none]) (ρ' := fun n => [some (.raw (.ref a)), none, some (.str n), none, none]) [("name", 2)] (blkOk_by rfl) (si_lst (ef_pub c p (ee_var 0 rfl))) (fun _ _ _ _ _ => pg_name (i := 2) oo.nd rfl (Or.inl rfl)) (fun x hx => tg_name)
      (fun _ _ _ _ _ x hx => ets_one (et_val (ee_meth m_is_there oo.blk (by decide) (ee_var 0 rfl) (p.at rfl) (ea_cons (ee_var 2 rfl) ea_nil) (fun _ s => ⟨a, r, st, hs, x, p.mono s, rfl, rfl⟩)))) (fun _ _ _ _ _ x hx hp => ee_var 2 rfl) (own1 rfl) (fun x hx => rfl) (sz64 hpl))) (.cons (.raw _) (.skip (.skip (.skip (.skip .nil))))) fun p' wp H1 fp s1 h1 d1 => ⟨s1 _ _ p.ins, fun H2 e2 i2 => ?_⟩)
    have hwp := d1.strs
    subst hwp
    have hpa : p' ≠ a := ne_of_none' p.ins fp
    have i2 : H2 a = some (.ins CP r.dx (fsP { r with pA := p' })) := i2
    have t2 : Same (hide H a) (hide H2 a) := by rw [e2]; exact hide_mono s1
    have up : ∀ {x : Addr} {o : HO} {H' : Hp}, Same (hide H a) (hide H' a) → x ≠ a → H x = some o → H' x = some o := fun t hx h => hide_same _ _ _ _ (t _ _ (by rw [hide_at hx]; exact h))
    obtain ⟨a1, a2, a3, a4, a5, a6, _⟩ := p.ne
    have p2 : PAt CP H2 a { r with pA := p' } { st with pub := st.pub.filter fun n => decide (n ∈ hs) } hs :=
      ⟨i2, up t2 (Ne.symm a1) p.counts, up t2 (Ne.symm a2) p.opened, hide_same _ _ _ _ (by rw [e2, hide_at hpa]; exact h1), up t2 (Ne.symm a4) p.deep, up t2 (Ne.symm a5) p.slots, up t2 (Ne.symm a6) p.here⟩
    -- own_deep
    refine ws_sfh 0 c.cls c.deep rfl (by show 10 < 1000; decide) (we_en (en_lc oo (lc_mk (xs := st.deep) (enc := D.str) (p := fun n => decide (n ∈ hs)) (f := D.str) (ρ := [some (.raw (.ref a)), none, none, none, none]) (ρ' := fun n => [some (.raw (.ref a)), none, some (.str n), none, none]) [("name", 2)] (blkOk_by rfl) (si_lst (ef_deep (st := { st with pub := st.pub.filter fun n => decide (n ∈ hs) }) c p2 (ee_var 0 rfl))) (fun _ _ _ _ _ => pg_name (i := 2) oo.nd rfl (Or.inl rfl)) (fun x hx => tg_name)
      (fun _ _ _ _ _ x hx => ets_one (et_val (ee_meth m_is_there oo.blk (by decide) (ee_var 0 rfl) (p2.at rfl) (ea_cons (ee_var 2 rfl) ea_nil) (fun _ s => ⟨a, _, _, hs, x, p2.mono s, rfl, rfl⟩)))) (fun _ _ _ _ _ x hx hp => ee_var 2 rfl) (own1 rfl) (fun x hx => rfl) (sz64 hdl))) (.cons (.raw _) (.skip (.skip (.skip (.skip .nil))))) fun d' wd H3 fd3 s3 h3 d3 => ⟨s3 _ _ i2, fun H4 e4 i4 => ?_⟩)
    have hwd := d3.strs
    subst hwd
    have hda : d' ≠ a := ne_of_none' i2 fd3
    have i4 : H4 a = some (.ins CP r.dx (fsP { r with pA := p', dA := d' })) := i4
    have t4 : Same (hide H2 a) (hide H4 a) := by rw [e4]; exact hide_mono s3
    have t24 := t2.trans t4
    have p4 : PAt CP H4 a { r with pA := p', dA := d' } (goM hs st) hs :=
      ⟨i4, up t24 (Ne.symm a1) p.counts, up t24 (Ne.symm a2) p.opened, hide_same _ _ _ _ (t4 _ _ (by rw [hide_at hpa]; exact p2.pub)), hide_same _ _ _ _ (by rw [e4, hide_at hda]; exact h3), up t24 (Ne.symm a5) p.slots, up t24 (Ne.symm a6) p.here⟩
    have hsa4 := p4.slots
    have hsa : r.sA ≠ a := Ne.symm a5
    -- slots, twice nothing
    refine ws_setNoItems (own := [("place", 3), ("answer", 4)]) 1 oo (blkOk_by rfl) hsa4 (fun od => ?_) fun s1' fs1 => ?_
    · exact we_vf 0 rfl c.cls c.slots (by rw [upd_ne (Ne.symm hsa)]; exact i4) rfl ⟨rfl, rfl⟩
    · have h5 : upd H4 s1' (.dK []) a = some (.ins CP r.dx (fsP { r with pA := p', dA := d' })) := by rw [upd_ne (ne_of_none i4 fs1)]; exact i4
      refine ws_sfh 0 c.cls c.slots rfl (by show 10 < 1000; decide) (we_noItems (own := [("place", 3), ("answer", 4)]) (d := s1') oo (blkOk_by rfl) upd_same (fun od => we_var 1 rfl ⟨rfl, rfl⟩) fun s2' fs2 => ⟨(upd_ne (ne_of_none h5 fs2)).trans h5, fun H6 e6 i6 => ?_⟩)
      have i6 : H6 a = some (.ins CP r.dx (fsP { r with pA := p', dA := d', sA := s2' })) := i6
      have hs2a : s2' ≠ a := ne_of_none' h5 fs2
      have t6 : Same (hide H4 a) (hide H6 a) := by rw [e6]; exact hide_mono ((Same.new fs1).trans (Same.new fs2))
      have t26 := t24.trans t6
      refine ws_nil (hQ p' d' s2' H6 ⟨i6, up t26 (Ne.symm a1) p.counts, up t26 (Ne.symm a2) p.opened, hide_same _ _ _ _ (t6 _ _ (by rw [hide_at hpa]; exact p4.pub)), hide_same _ _ _ _ (t6 _ _ (by rw [hide_at hda]; exact p4.deep)), hide_same _ _ _ _ (by rw [e6, hide_at hs2a]; exact upd_same), up t26 (Ne.symm a6) p.here⟩ (t26.trans (hide_same _ _)) fp ?_ ?_ ?_)
      · have := t2.free (l := d') (by rw [hide_at hda]; exact fd3)
        rwa [hide_at hda] at this
      · have := (t24.trans (hide_mono (Same.new fs1))).free (l := s2') (by rw [hide_at hs2a]; exact fs2)
        rwa [hide_at hs2a] at this
      · exact ne_of_none p2.pub fd3

abbrev s_come : Stmt := inClass (top 37) 16
theorem sc_come : FnScope ["self", "k", "name"] ["self", "k"] (defScope s_come) := ⟨rfl, rfl, rfl, by decide +kernel, rfl, by decide +kernel, by decide +kernel⟩
def comeM (P : ProgD) (hs : List S) (k : Nat) (st : PSt) : PSt :=
  { counts := st.counts, opened := st.opened ++ [k],
    pub := if modeOf P k = sGlobal then st.pub ++ (doorRow P k).filter (fun n => !decide (n ∈ st.pub)) else st.pub,
    deep := if modeOf P k = sDeep then st.deep ++ (doorRow P k).filter (fun n => !decide (n ∈ hs)) else st.deep }
def QCome (K : PySem.W.Frag) (CP CG : Addr) : List V → Hp → VK → Prop := fun vs H Q => ∃ (a : Addr) (r : PR) (st : PSt) (hs : List S) (P : ProgD) (k : Nat), vs = [.ref a, vNat k] ∧ PAt CP H a r st hs ∧ (ownP r).Nodup ∧ GAt K CG (hideL H (OW a r)) r.G r.vp r.vf r.vr P ∧ WF P ∧ SZ P ∧ PZ P st ∧ k < P.doors.length ∧
  ∀ h' H', PAt CP H' a { r with hA := h' } (comeM P hs k st) (hereM P (st.opened ++ [k])) → Same (hideL H (OW a r)) H' → Q .non H'
theorem ok_come (F : Fun K "come" "Process.come" s_come f fd) (c : ClsP K CP) (C : Gk mg K) (m_is_there : Met P w K mg base 1 CP "is_there" (spP K (RIsThere CP))) (m_all_here : Met P w K mg base 1 CP "all_here" (spG (QAllHere K CP))) : FnOk P w K mg base CX0 2 f fd ["self", "k"] (spG (QCome K CP CG)) := by
  refine fn_W F sc_come (fun vs H Q h => ?_) (fun cdv A outer s H E vs Q oo h => ?_)
  · obtain ⟨a, r, st, hs, G, k, rfl, _⟩ := h
    rfl
  · obtain ⟨a, r, st, hs, G, k, rfl, p, nd, g, hw, hz, pz, hk, hQ⟩ := h
    have hdo : G.doors[k]? = some G.doors[k] := List.getElem?_eq_getElem hk
    generalize G.doors[k] = dd at hdo
    have hmode : modeOf G k = dd.2 := by unfold modeOf; rw [hdo]
    have hat : (D.tup (G.doors.map encPair)).at ((k : Nat) : Int) = some (encPair dd) := by
      show atI (G.doors.map encPair) _ = _
      exact atI_nat (by rw [List.getElem?_map, hdo]; rfl)
    have hrl : (doorRow G k).length ≤ 8 := names_len hz doorRow_nodup (doorRow_names hw)
    have hdl := pz.deep
    have hpl := pz.pub.1
    -- deep
    let M1 : L2.St → Hp → Prop := fun σ H' => σ = [some (.ref a), some (vNat k), none] ∧ PAt CP H' a r { st with deep := (comeM G hs k st).deep } hs ∧ Same (hideL H (OW a r)) H'
    refine ws_ifM M1 (wt_et (et_cmp od_eqS (ee_ix (ee_ix (ee_ix (ef_program c p (g.mono hideL_same) (ee_var 0 rfl)) ee_int rfl) (ee_var 1 rfl) hat) ee_int rfl) (ee_gc C.DEEP)) (ρ := [some (.raw (.ref a)), some (dNat k), none]) (.cons (.raw _) (.cons (.int _) (.skip .nil))) fun H1 s1 => ?_) ?_
    · have p1 := p.mono s1
      have g1 : GAt K CG H1 r.G r.vp r.vf r.vr G := (g.mono hideL_same).mono s1
      have s1' : Same (hideL H (OW a r)) H1 := hideL_same.trans s1
      by_cases hm : dd.2 = sDeep
      · rw [decide_eq_true hm]
        refine iteT (ws_extend (we_fp 0 c p1 rfl c.deep rfl ⟨r.dA, rfl, ⟨_, p1.deep⟩, we_en (en_lc oo (lc_mk (xs := doorRow G k) (enc := D.str) (p := fun n => !decide (n ∈ hs)) (f := D.str) (ρ := [some (.raw (.ref a)), some (dNat k), none]) (ρ' := fun n => [some (.raw (.ref a)), some (dNat k), some (.str n)]) [("name", 2)] (blkOk_by rfl)
          (si_lst (ee_ix (i := (k : Nat)) (d := .lst ((doorRow G k).map D.str)) (ef_rows c p1 g1 (ee_var 0 rfl)) (ee_var 1 rfl) (rows_at hk))) (fun _ _ _ _ _ => pg_name (i := 2) oo.nd rfl (Or.inl rfl)) (fun x hx => tg_name)
          (fun _ _ _ _ _ x hx => ets_one (et_not (et_val (ee_meth m_is_there oo.blk (by decide) (ee_var 0 rfl) (p1.at rfl) (ea_cons (ee_var 2 rfl) ea_nil) (fun _ s => ⟨a, r, st, hs, x, p1.mono s, rfl, rfl⟩))))) (fun _ _ _ _ _ x hx hp => ee_var 2 rfl) (own1 rfl) (fun x hx => rfl) (sz8 hrl))) (.cons (.raw _) (.cons (.int _) (.skip .nil))) fun l2 wl H2 fl s2 h2 d2 => ⟨l2, _, _, rfl, s2 _ _ p1.deep, h2, ?_, ws_nil ⟨rfl, ?_, sameUpd (s1'.trans s2) ow_d⟩⟩⟩))
        · have := d2.length
          rw [this, List.length_map, List.length_map]
          have h3 := List.length_filter_le (fun n => !decide (n ∈ hs)) (doorRow G k)
          exact Nat.le_trans (by omega : _ ≤ 128) (by decide)
        · have hwl := d2.strs
          subst hwl
          rw [← List.map_append]
          have : (comeM G hs k st).deep = st.deep ++ (doorRow G k).filter (fun n => !decide (n ∈ hs)) := by
            show (if modeOf G k = sDeep then _ else _) = _
            rw [hmode, if_pos hm]
          rw [this]
          exact (p1.mono s2).setDeep nd
      · rw [decide_eq_false hm]
        refine iteF (ws_nil ⟨rfl, ?_, s1'⟩)
        have : (comeM G hs k st).deep = st.deep := by
          show (if modeOf G k = sDeep then _ else _) = _
          rw [hmode, if_neg hm]
        rw [this]
        exact p1
    · rintro σ H1 ⟨rfl, p1, s1⟩
      -- opened
      refine ws_append (we_fp 0 c p1 rfl c.opened rfl ⟨r.oA, rfl, ⟨_, p1.opened⟩, we_var 1 rfl ⟨_, p1.opened, ?_, ?_⟩⟩)
      · rw [List.length_map]
        exact Nat.lt_of_le_of_lt pz.opened.1 (by decide)
      have e2 : (st.opened.map vNat) ++ [vNat k] = (st.opened ++ [k]).map vNat := by rw [List.map_append]; rfl
      have p2 : PAt CP (upd H1 r.oA (.lst ((st.opened.map vNat) ++ [vNat k]))) a r { st with deep := (comeM G hs k st).deep, opened := st.opened ++ [k] } hs := by
        rw [e2]
        exact p1.setOpened nd
      have s2 : Same (hideL H (OW a r)) (upd H1 r.oA (.lst ((st.opened.map vNat) ++ [vNat k]))) := sameUpd s1 ow_o
      have g2 : GAt K CG (upd H1 r.oA (.lst ((st.opened.map vNat) ++ [vNat k]))) r.G r.vp r.vf r.vr G := g.mono s2
      -- here
      refine ws_sf 0 c.cls c.here rfl (we_met0 m_all_here oo (by decide) (we_var 0 rfl ⟨a, rfl, p2.at rfl, a, r.dx, fsP r, r.vf, r.oA, r.vr, st.opened ++ [k], G, rfl, p2.ins, rfl, rfl, rfl, g2.first, g2.rows, p2.opened, hw, hz, ?_, fun h' H3 fh s3 hh => ⟨r.dx, fsP r, s3 _ _ p2.ins, by show 10 < 1000; decide, ?_⟩⟩))
      · intro j hj
        rcases List.mem_append.mp hj with h | h
        · exact pz.opened.2 j h
        · have : j = k := by simpa using h
          rw [this]
          exact hk
      have p3 : PAt CP (upd H3 a (.ins CP r.dx (putF "own_here" (.ref h') (fsP r)))) a { r with hA := h' } { st with deep := (comeM G hs k st).deep, opened := st.opened ++ [k] } (hereM G (st.opened ++ [k])) := (p2.mono s3).setHere hh
      have s4 : Same (hideL H (OW a r)) (upd H3 a (.ins CP r.dx (putF "own_here" (.ref h') (fsP r)))) := sameUpd (s2.trans s3) ow_a
      have g4 : GAt K CG (upd H3 a (.ins CP r.dx (putF "own_here" (.ref h') (fsP r)))) r.G r.vp r.vf r.vr G := g.mono s4
      generalize hH4 : upd H3 a (.ins CP r.dx (putF "own_here" (.ref h') (fsP r))) = H4 at p3 s4 g4 ⊢
      -- public
      let M2 : L2.St → Hp → Prop := fun σ H' => PAt CP H' a { r with hA := h' } (comeM G hs k st) (hereM G (st.opened ++ [k])) ∧ Same (hideL H (OW a r)) H'
      refine ws_ifM M2 (wt_et (et_cmp od_eqS (ee_ix (ee_ix (ee_ix (ef_program c p3 g4 (ee_var 0 rfl)) ee_int rfl) (ee_var 1 rfl) hat) ee_int rfl) (ee_gc C.GLOBAL)) (ρ := [some (.raw (.ref a)), some (dNat k), none]) (.cons (.raw _) (.cons (.int _) (.skip .nil))) fun H5 s5 => ?_) ?_
      · have p5 := p3.mono s5
        have g5 := g4.mono s5
        by_cases hm : dd.2 = sGlobal
        · rw [decide_eq_true hm]
          refine iteT (ws_extend (we_fp 0 c p5 rfl c.pub rfl ⟨r.pA, rfl, ⟨_, p5.pub⟩, we_en (en_lc oo (lc_mk (xs := doorRow G k) (enc := D.str) (p := fun n => !decide (n ∈ st.pub)) (f := D.str) (ρ := [some (.raw (.ref a)), some (dNat k), none]) (ρ' := fun n => [some (.raw (.ref a)), some (dNat k), some (.str n)]) [("name", 2)] (blkOk_by rfl)
            (si_lst (ee_ix (i := (k : Nat)) (d := .lst ((doorRow G k).map D.str)) (ef_rows c p5 g5 (ee_var 0 rfl)) (ee_var 1 rfl) (rows_at hk))) (fun _ _ _ _ _ => pg_name (i := 2) oo.nd rfl (Or.inl rfl)) (fun x hx => tg_name)
            (fun _ _ _ _ _ x hx => ets_one (et_cmp (od_notInS oo.blk (xs := st.pub)) (ee_var 2 rfl) (ef_pub c p5 (ee_var 0 rfl)))) (fun _ _ _ _ _ x hx hp => ee_var 2 rfl) (own1 rfl) (fun x hx => rfl) (sz8 hrl))) (.cons (.raw _) (.cons (.int _) (.skip .nil))) fun l2 wl H6 fl s6 h6 d6 => ⟨l2, _, _, rfl, s6 _ _ p5.pub, h6, ?_, ws_nil ⟨?_, sameUpd ((s4.trans s5).trans s6) ow_p⟩⟩⟩))
          · have := d6.length
            rw [this, List.length_map, List.length_map]
            change st.pub.length + _ ≤ _
            have h3 := List.length_filter_le (fun n => !decide (n ∈ st.pub)) (doorRow G k)
            exact Nat.le_trans (by omega : _ ≤ 128) (by decide)
          · have hwl := d6.strs
            subst hwl
            rw [← List.map_append]
            have e : comeM G hs k st = { st with deep := (comeM G hs k st).deep, opened := st.opened ++ [k], pub := st.pub ++ (doorRow G k).filter (fun n => !decide (n ∈ st.pub)) } :=
              congrArg (fun z => PSt.mk st.counts (st.opened ++ [k]) z (comeM G hs k st).deep) (if_pos (by rw [hmode]; exact hm))
            rw [e]
            exact (p5.mono s6).setPub nd
        · rw [decide_eq_false hm]
          refine iteF (ws_nil ⟨?_, s4.trans s5⟩)
          have e : comeM G hs k st = { st with deep := (comeM G hs k st).deep, opened := st.opened ++ [k] } :=
            congrArg (fun z => PSt.mk st.counts (st.opened ++ [k]) z (comeM G hs k st).deep) (if_neg (by rw [hmode]; exact hm))
          rw [e]
          exact p5
      · rintro σ H5 ⟨p5, s5⟩
        exact ws_nil (hQ h' H5 p5 s5)
end
end K74

set_option Elab.async false
set_option linter.all false
set_option maxRecDepth 100000
set_option maxHeartbeats 4000000
/-! K74.KP7: open_door, close_door, do. -/
namespace K74
open PySem PySem.Spec PyProof.Rows L2

theorem idxOf_min : ∀ {ks : List Nat} {k m : Nat}, m < ks.idxOf k → ks[m]? ≠ some k
  | [], _, _, h, e => by simp at e
  | x :: r, k, 0, h, e => by
    simp at e
    subst e
    simp at h
  | x :: r, k, m + 1, h, e => by
    rw [List.idxOf_cons] at h
    by_cases hx : x = k
    · subst hx
      simp at h
    · have hx' : (x == k) = false := by simpa using hx
      rw [hx'] at h
      exact idxOf_min (ks := r) (by simpa using h) (by simpa using e)
theorem eraseIdx_map' {α β : Type} (g : α → β) : ∀ (l : List α) (j : Nat), (l.map g).eraseIdx j = (l.eraseIdx j).map g
  | [], _ => rfl
  | _ :: _, 0 => rfl
  | x :: r, j + 1 => by
    show g x :: (r.map g).eraseIdx j = g x :: (r.eraseIdx j).map g
    rw [eraseIdx_map' g r j]
section
variable {X : Cx} {c e o i : Expr} {rest body orelse : List Stmt} {σ : L2.St} {H : Hp} {pos tpos apos cpos : Pos} {Dn : Ends}
def gL : V → V → Hp → VK → Prop := fun o i H Q => ∃ (p : Addr) (xs : List V) (k : Nat) (y : V), o = .ref p ∧ i = vNat k ∧ H p = some (.lst xs) ∧ xs[k]? = some y ∧ Q y H
theorem get_list : PGet X gL := by
  intro pins s σ H o i ov iv Q I ro ri h
  obtain ⟨p, xs, k, y, rfl, rfl, hp, hy, q⟩ := h
  cases ro
  obtain ⟨t, rfl⟩ := ri
  obtain ⟨its, r, pl, hz⟩ := I.list (SqL.of hp)
  obtain ⟨w, hw, rw'⟩ := r.get hy
  have hk := (List.getElem?_eq_some_iff.mp hy).1
  have hs : sizeLine = 16777216 := sizeLine_eq
  exact wpAny_getItem_list pl.isList (by omega) (by omega) (by simpa using hw) ⟨y, H, I, rw', q⟩
/-- xs[k] op= b of a list of ints, b an int -/
theorem ws_augL {op : Operator} {g : Int → Int → Int} (ho' : PIp X op (ipI g)) (h : WE X o σ H fun v H1 => WE X i σ H1 fun u H2 => ∃ (p : Addr) (cs : List Int) (k : Nat) (z : Int), v = .ref p ∧ u = vNat k ∧ H2 p = some (.lst (cs.map V.int)) ∧ cs[k]? = some z ∧ WE X e σ H2 fun y H3 => ∃ b, y = .int b ∧ H3 p = some (.lst (cs.map V.int)) ∧ WS X rest Dn σ (upd H3 p (.lst ((cs.set k (g z b)).map V.int))))
    (ha : ∀ ov iv new, augStore i ov iv new = (do holding [new, ov, iv] (setItem ov iv new); release [new, ov, iv] []; pure .next) := by intros; rfl) : WS X (.AugAssign (.Subscript o i tpos) op e pos :: rest) Dn σ H :=
  ws_cons (ps_augS pe_w pe_w get_list pe_w ho' set_list ha) (h.mono fun v H1 h1 => h1.mono fun u H2 ⟨p, cs, k, z, e1, e2, h2, h3, h4⟩ => ⟨p, cs.map V.int, k, .int z, e1, e2, h2, by rw [List.getElem?_map, h3]; rfl, h4.mono fun y H3 ⟨b, e3, h5, h6⟩ => ⟨z, b, rfl, e3, p, cs.map V.int, (k : Int), k, e1, e2, h5, by
    have hk := (List.getElem?_eq_some_iff.mp h3).1
    unfold ixN
    rw [if_pos (by omega), if_pos (by rw [List.length_map]; omega)]
    rfl, by rw [List.map_set] at h6; exact h6⟩⟩)
/-- xs.remove(k) of a list of places without doubles -/
theorem ws_removeN (h : WE X o σ H fun v H1 => ∃ l, v = .ref l ∧ (∃ xs, H1 l = some (.lst xs)) ∧ WE X e σ H1 fun y H2 => ∃ (ks : List Nat) (k : Nat), y = vNat k ∧ H2 l = some (.lst (ks.map vNat)) ∧ k ∈ ks ∧ WS X rest Dn σ (upd H2 l (.lst ((ks.erase k).map vNat))))
    (hbase : attributeBase o "remove" X.env (eval o X.env) = eval o X.env := by rfl)
    (hfew : ((backTo cpos (starEach (e :: []) X.env)).all (fun x => !x.1) && (backToKw cpos (keywordEach [] X.env)).all (fun x => x.1.isSome)
      && decide ((e :: ([] : List Expr)).length + ([] : List Keyword).length + (if ([] : List Keyword).isEmpty then 0 else 1) < 30)) = true := by rfl)
    (hline : (apos.endLine == cpos.line) = true := by rfl) (hst : starEach (e :: []) X.env = (false, eval e X.env) :: starEach [] X.env := by rfl) (hplain : (backTo cpos (starEach [] X.env)).any (·.1) = false := by rfl)
    (hs : swapsWith (.Call (.Attribute o "remove" apos) [e] [] cpos) none pos.line X.env = pure false := by rfl) : WS X (.Expr (.Call (.Attribute o "remove" apos) [e] [] cpos) pos :: rest) Dn σ H :=
  ws_cons (ps_expr (pe_bm PySem.F.plainAttrs_list PySem.F.slot_list_remove PySem.F.type_list_remove mt_remove pe_w (pa_cons pe_w pa_nil hst) hbase hfew hline hst hplain) hs)
    (h.mono fun v H1 ⟨l, ev, ⟨ys, hy⟩, hh⟩ => ⟨by
      subst ev
      exact .inl ⟨rfl, ys, SqL.of hy⟩, hh.mono fun y H2 ⟨ks, k, e1, h1, hk, h2⟩ => by
      have hm : ∀ xs : List Nat, xs.map vNat = (xs.map Int.ofNat).map V.int := fun xs => by rw [List.map_map]; rfl
      have hlt := List.idxOf_lt_length_of_mem hk
      refine ⟨l, ks.map Int.ofNat, (k : Int), ks.idxOf k, ev, by rw [e1]; rfl, by rw [h1, hm], ?_, fun m hmlt hmk => ?_, ?_⟩
      · rw [List.getElem?_map, List.getElem?_eq_getElem hlt, List.getElem_idxOf hlt]
        rfl
      · rw [List.getElem?_map] at hmk
        cases hq : ks[m]? with
        | none => rw [hq] at hmk; cases hmk
        | some z =>
          rw [hq] at hmk
          have hz : z = k := Int.ofNat.inj (Option.some.inj hmk)
          exact idxOf_min hmlt (by rw [hq, hz])
      · rw [List.erase_eq_eraseIdx_of_idxOf rfl, hm] at h2
        have e3 : ((ks.map Int.ofNat).eraseIdx (ks.idxOf k)) = (ks.eraseIdx (ks.idxOf k)).map Int.ofNat := eraseIdx_map' _ _ _
        rw [e3]
        exact h2⟩)
end
end K74

set_option Elab.async false
set_option linter.all false
set_option maxRecDepth 100000
set_option maxHeartbeats 4000000
/-! K74.KP8: open_door, close_door, do. -/
namespace K74
open PySem PySem.Spec PyProof.Rows L2

/-! ### a step, the mirror -/
def openM (P : ProgD) (k : Nat) (st : PSt) : PSt := comeM P (hereM P st.opened) k { st with counts := st.counts.set k 1 }
def closeM (P : ProgD) (k : Nat) (st : PSt) : PSt := goM (hereM P (st.opened.erase k)) { st with counts := st.counts.set k 0, opened := st.opened.erase k }
inductive StepD | op (k : Nat) | cl (k : Nat)
def stepM (P : ProgD) : StepD → PSt → PSt
  | .op k, st => openM P k st
  | .cl k, st => closeM P k st
def sOpen : S := "open"
def sClose : S := "close"
def encStep : StepD → D
  | .op k => .tup [.str sOpen, dNat k]
  | .cl k => .tup [.str sClose, dNat k]
/-- what a step asks -/
def StepOk (P : ProgD) (st : PSt) : StepD → Prop
  | .op k => k < P.doors.length ∧ st.counts[k]? = some 0
  | .cl k => st.counts[k]? = some 1 ∧ k ∈ st.opened

section
variable {P : Program} {w : World} {K : PySem.W.Frag} {mg : Str → Option Value} {base : Heap} {f : Addr} {fd : FuncData} {k : Nat} {CP CG : Addr}
/-- behind a step: a process still, the rest as it was, what is new is new -/
structure StepP (CP : Addr) (H : Hp) (a : Addr) (r : PR) (st' : PSt) (hs' : List S) (r' : PR) (H' : Hp) : Prop where
  at_ : PAt CP H' a r' st' hs'
  same : Same (hideL H (OW a r)) H'
  own : ∀ x ∈ ownP r', x ∈ ownP r ∨ H x = none
  nd : (ownP r').Nodup
  G : r'.G = r.G
  vp : r'.vp = r.vp
  vf : r'.vf = r.vf
  vr : r'.vr = r.vr
abbrev s_open_door : Stmt := inClass (top 37) 15
theorem sc_open_door : FnScope ["self", "k"] ["self", "k"] (defScope s_open_door) := ⟨rfl, rfl, rfl, by decide +kernel, rfl, by decide +kernel, by decide +kernel⟩
def QOpen (K : PySem.W.Frag) (CP CG : Addr) : List V → Hp → VK → Prop := fun vs H Q => ∃ (a : Addr) (r : PR) (st : PSt) (P : ProgD) (k : Nat), vs = [.ref a, vNat k] ∧ PAt CP H a r st (hereM P st.opened) ∧ (ownP r).Nodup ∧ GAt K CG (hideL H (OW a r)) r.G r.vp r.vf r.vr P ∧ WF P ∧ SZ P ∧ PZ P st ∧ StepOk P st (.op k) ∧
  ∀ v r' H', StepP CP H a r (openM P k st) (hereM P (st.opened ++ [k])) r' H' → Q v H'
theorem ok_open_door (F : Fun K "open_door" "Process.open_door" s_open_door f fd) (c : ClsP K CP) (C : Gk mg K) (m_look_door : Met P w K mg base 1 CP "look_door" (spP K (RLookDoor CP))) (m_come : Met P w K mg base 2 CP "come" (spG (QCome K CP CG))) : FnOk P w K mg base CX0 3 f fd ["self", "k"] (spG (QOpen K CP CG)) := by
  refine fn_W F sc_open_door (fun vs H Q h => ?_) (fun cdv A outer s H E vs Q oo h => ?_)
  · obtain ⟨a, r, st, G, k, rfl, _⟩ := h
    rfl
  · obtain ⟨a, r, st, G, k, rfl, p, nd, g, hw, hz, pz, ⟨hk, hc⟩, hQ⟩ := h
    have hcl := (List.getElem?_eq_some_iff.mp hc).1
    have el0 : ∀ H' : Hp, EL K H' [some (.raw (.ref a)), some (dNat k)] [some (.ref a), some (vNat k)] := fun H' => .cons (.raw _) (.cons (.int _) .nil)
    refine ws_expr (we_ee (ee_meth m_look_door oo (by decide) (ee_var 0 rfl) (p.at rfl) (ea_cons (ee_var 1 rfl) ea_nil) (fun _ s => ⟨a, r, st, _, k, p.mono s, rfl, rfl, hcl⟩)) (el0 H) fun _ H1 s1 _ => ?_)
    have p1 := p.mono s1
    have hatc : (D.lst (st.counts.map D.int)).at ((k : Nat) : Int) = some (.int 0) := by
      show atI (st.counts.map D.int) _ = _
      exact atI_nat (by rw [List.getElem?_map, hc]; rfl)
    refine ws_ifE (z := false) (et_is (by decide) (et_cmp od_eqI (ee_ix (ef_counts c p1 (ee_var 0 rfl)) (ee_var 1 rfl) hatc) (ee_gc C.MOST))) (el0 H1) (fun z => by cases z) fun _ H2 s2 => ws_nil ?_
    have p2 := p1.mono s2
    have s02 : Same H H2 := s1.trans s2
    -- counts[k] += 1
    refine ws_augL ip_add (we_fp 0 c p2 rfl c.counts rfl (we_var 1 rfl ⟨r.cA, st.counts, k, 0, rfl, rfl, p2.counts, hc, we_of pe_int ⟨1, rfl, p2.counts, ?_⟩⟩))
    have p3 := p2.setCounts nd (cs := st.counts.set k ((0 : Int) + 1))
    have s3 : Same (hideL H (OW a r)) (upd H2 r.cA (.lst ((st.counts.set k ((0 : Int) + 1)).map V.int))) := sameUpd (hideL_same.trans s02) ow_c
    generalize hH3 : upd H2 r.cA (.lst ((st.counts.set k ((0 : Int) + 1)).map V.int)) = H3 at p3 s3 ⊢
    have hc1 : (st.counts.set k ((0 : Int) + 1))[k]? = some 1 := by rw [List.getElem?_set_self hcl]; rfl
    have hatc1 : (D.lst ((st.counts.set k ((0 : Int) + 1)).map D.int)).at ((k : Nat) : Int) = some (.int 1) := by
      show atI ((st.counts.set k ((0 : Int) + 1)).map D.int) _ = _
      exact atI_nat (by rw [List.getElem?_map, hc1]; rfl)
    -- come
    refine ws_ifE (z := true) (et_is (by decide) (et_cmp od_eqI (ee_ix (ef_counts (st := { st with counts := st.counts.set k ((0 : Int) + 1) }) c p3 (ee_var 0 rfl)) (ee_var 1 rfl) hatc1) ee_int)) (el0 H3) (fun _ H4 s4 => ?_) (fun z => by cases z)
    have p4 := p3.mono s4
    have g4 : GAt K CG (hideL H4 (OW a r)) r.G r.vp r.vf r.vr G := g.mono (hideL_two (s3.trans s4))
    refine ws_expr (we_met m_come oo (by decide) (we_var 0 rfl ⟨a, rfl, p4.at rfl, wa_cons (we_var 1 rfl (wa_nil ⟨a, r, _, _, G, k, rfl, p4, nd, g4, hw, hz, ⟨pz.opened, pz.pub, pz.deep⟩, hk, fun h' H5 p5 s5 => ?_⟩))⟩))
    refine ws_nil (ws_ret (we_ee (ee_gc C.OPENED) (el0 H5) fun v H6 s6 _ => hQ v { r with hA := h' } H6 ⟨p5.mono s6, ?_, fun x hx => .inl hx, nd, rfl, rfl, rfl, rfl⟩))
    exact ((hideL_two (s3.trans s4)).trans s5).trans s6

abbrev s_close_door : Stmt := inClass (top 37) 17
theorem sc_close_door : FnScope ["self", "k"] ["self", "k"] (defScope s_close_door) := ⟨rfl, rfl, rfl, by decide +kernel, rfl, by decide +kernel, by decide +kernel⟩
def QClose (K : PySem.W.Frag) (CP CG : Addr) : List V → Hp → VK → Prop := fun vs H Q => ∃ (a : Addr) (r : PR) (st : PSt) (P : ProgD) (k : Nat), vs = [.ref a, vNat k] ∧ PAt CP H a r st (hereM P st.opened) ∧ (ownP r).Nodup ∧ GAt K CG (hideL H (OW a r)) r.G r.vp r.vf r.vr P ∧ WF P ∧ SZ P ∧ PZ P st ∧ StepOk P st (.cl k) ∧
  ∀ v r' H', StepP CP H a r (closeM P k st) (hereM P (st.opened.erase k)) r' H' → Q v H'
theorem ok_close_door (F : Fun K "close_door" "Process.close_door" s_close_door f fd) (c : ClsP K CP) (C : Gk mg K) (m_look_door : Met P w K mg base 1 CP "look_door" (spP K (RLookDoor CP))) (m_all_here : Met P w K mg base 1 CP "all_here" (spG (QAllHere K CP))) (m_go : Met P w K mg base 2 CP "go" (spG (QGo CP))) : FnOk P w K mg base CX0 3 f fd ["self", "k"] (spG (QClose K CP CG)) := by
  refine fn_W F sc_close_door (fun vs H Q h => ?_) (fun cdv A outer s H E vs Q oo h => ?_)
  · obtain ⟨a, r, st, G, k, rfl, _⟩ := h
    rfl
  · obtain ⟨a, r, st, G, k, rfl, p, nd, g, hw, hz, pz, ⟨hc, hko⟩, hQ⟩ := h
    have hcl := (List.getElem?_eq_some_iff.mp hc).1
    have el0 : ∀ H' : Hp, EL K H' [some (.raw (.ref a)), some (dNat k)] [some (.ref a), some (vNat k)] := fun H' => .cons (.raw _) (.cons (.int _) .nil)
    refine ws_expr (we_ee (ee_meth m_look_door oo (by decide) (ee_var 0 rfl) (p.at rfl) (ea_cons (ee_var 1 rfl) ea_nil) (fun _ s => ⟨a, r, st, _, k, p.mono s, rfl, rfl, hcl⟩)) (el0 H) fun _ H1 s1 _ => ?_)
    have p1 := p.mono s1
    have hatc : (D.lst (st.counts.map D.int)).at ((k : Nat) : Int) = some (.int 1) := by
      show atI (st.counts.map D.int) _ = _
      exact atI_nat (by rw [List.getElem?_map, hc]; rfl)
    refine ws_ifE (z := false) (et_is (by decide) (et_cmp od_eqI (ee_ix (ef_counts c p1 (ee_var 0 rfl)) (ee_var 1 rfl) hatc) ee_int)) (el0 H1) (fun z => by cases z) fun _ H2 s2 => ws_nil ?_
    have p2 := p1.mono s2
    have s02 : Same H H2 := s1.trans s2
    refine ws_augL ip_sub (we_fp 0 c p2 rfl c.counts rfl (we_var 1 rfl ⟨r.cA, st.counts, k, 1, rfl, rfl, p2.counts, hc, we_of pe_int ⟨1, rfl, p2.counts, ?_⟩⟩))
    have p3 := p2.setCounts nd (cs := st.counts.set k ((1 : Int) - 1))
    have s3 : Same (hideL H (OW a r)) (upd H2 r.cA (.lst ((st.counts.set k ((1 : Int) - 1)).map V.int))) := sameUpd (hideL_same.trans s02) ow_c
    generalize hH3 : upd H2 r.cA (.lst ((st.counts.set k ((1 : Int) - 1)).map V.int)) = H3 at p3 s3 ⊢
    have hc1 : (st.counts.set k ((1 : Int) - 1))[k]? = some 0 := by rw [List.getElem?_set_self hcl]; rfl
    have hatc1 : (D.lst ((st.counts.set k ((1 : Int) - 1)).map D.int)).at ((k : Nat) : Int) = some (.int 0) := by
      show atI ((st.counts.set k ((1 : Int) - 1)).map D.int) _ = _
      exact atI_nat (by rw [List.getElem?_map, hc1]; rfl)
    refine ws_ifE (z := true) (et_is (by decide) (et_cmp od_eqI (ee_ix (ef_counts (st := { st with counts := st.counts.set k ((1 : Int) - 1) }) c p3 (ee_var 0 rfl)) (ee_var 1 rfl) hatc1) ee_int)) (el0 H3) (fun _ H4 s4 => ?_) (fun z => by cases z)
    have p4 := p3.mono s4
    have s04 := s3.trans s4
    -- opened.remove(k)
    refine ws_removeN (we_fp 0 c p4 rfl c.opened rfl ⟨r.oA, rfl, ⟨_, p4.opened⟩, we_var 1 rfl ⟨st.opened, k, rfl, p4.opened, hko, ?_⟩⟩)
    have p5 := p4.setOpened nd (os := st.opened.erase k)
    have s5 : Same (hideL H (OW a r)) (upd H4 r.oA (.lst ((st.opened.erase k).map vNat))) := sameUpd s04 ow_o
    generalize hH5 : upd H4 r.oA (.lst ((st.opened.erase k).map vNat)) = H5 at p5 s5 ⊢
    have g5 : GAt K CG H5 r.G r.vp r.vf r.vr G := g.mono s5
    have hsub : ∀ j ∈ st.opened.erase k, j < G.doors.length := fun j hj => pz.opened.2 j (List.mem_of_mem_erase hj)
    -- here
    refine ws_sf 0 c.cls c.here rfl (we_met0 m_all_here oo (by decide) (we_var 0 rfl ⟨a, rfl, p5.at rfl, a, r.dx, fsP r, r.vf, r.oA, r.vr, st.opened.erase k, G, rfl, p5.ins, rfl, rfl, rfl, g5.first, g5.rows, p5.opened, hw, hz, hsub, fun h' H6 fh s6 hh => ⟨r.dx, fsP r, s6 _ _ p5.ins, by show 10 < 1000; decide, ?_⟩⟩))
    have p6 : PAt CP (upd H6 a (.ins CP r.dx (putF "own_here" (.ref h') (fsP r)))) a { r with hA := h' } _ (hereM G (st.opened.erase k)) := (p5.mono s6).setHere hh
    have s7 : Same (hideL H (OW a r)) (upd H6 a (.ins CP r.dx (putF "own_here" (.ref h') (fsP r)))) := sameUpd (s5.trans s6) ow_a
    generalize hH7 : upd H6 a (.ins CP r.dx (putF "own_here" (.ref h') (fsP r))) = H7 at p6 s7 ⊢
    have hdl := pz.deep
    refine ws_expr (we_met0 m_go oo (by decide) (we_var 0 rfl ⟨a, rfl, p6.at rfl, a, { r with hA := h' }, _, _, rfl, p6, pz.pub.1, by show st.deep.length ≤ 64; omega, fun p' d' s' H8 p8 s8 fp fd fs hpd => ?_⟩))
    refine ws_nil (ws_ret (we_ee (ee_gc C.CLOSED) (el0 H8) fun v H9 s9 _ => hQ v { r with hA := h', pA := p', dA := d', sA := s' } H9 ⟨p8.mono s9, ?_, ?_, ?_, rfl, rfl, rfl, rfl⟩))
    · exact (((hideL_two s7).trans (hideL_one ow_a)).trans s8).trans s9
    · intro x hx
      have hx' : x = r.cA ∨ x = r.oA ∨ x = p' ∨ x = d' := by simpa [ownP] using hx
      have bk : ∀ {x : Addr}, H7 x = none → x ∉ OW a r → H x = none := fun {x} h hn => by
        have := s7.free h
        rwa [hideL_at hn] at this
      have nn : ∀ {x : Addr}, H7 x = none → x ∉ OW a r ∨ x ∈ ownP r := fun {x} h => by
        by_cases hm : x ∈ ownP r
        · exact .inr hm
        · refine .inl fun hm2 => ?_
          rcases List.mem_cons.mp hm2 with e | e
          · rw [e, p6.ins] at h
            cases h
          · exact hm e
      rcases hx' with e | e | e | e
      · rw [e]; exact .inl (by simp [ownP])
      · rw [e]; exact .inl (by simp [ownP])
      · rw [e]
        rcases nn fp with h | h
        · exact .inr (bk fp h)
        · exact .inl h
      · rw [e]
        rcases nn fd with h | h
        · exact .inr (bk fd h)
        · exact .inl h
    · obtain ⟨n1, n2, n3, n4, n5, n6⟩ := nd_ne nd
      have q1 : p' ≠ r.cA := ne_of_none' p6.counts fp
      have q2 : p' ≠ r.oA := ne_of_none' p6.opened fp
      have q3 : d' ≠ r.cA := ne_of_none' p6.counts fd
      have q4 : d' ≠ r.oA := ne_of_none' p6.opened fd
      show [r.cA, r.oA, p', d'].Nodup
      simp [n1, Ne.symm q1, Ne.symm q2, Ne.symm q3, Ne.symm q4, hpd]

abbrev s_do : Stmt := inClass (top 37) 22
theorem sc_do : FnScope ["self", "step"] ["self", "step"] (defScope s_do) := ⟨rfl, rfl, rfl, by decide +kernel, rfl, by decide +kernel, by decide +kernel⟩
def stepOpened (st : PSt) : StepD → List Nat
  | .op k => st.opened ++ [k]
  | .cl k => st.opened.erase k
def QDo (K : PySem.W.Frag) (CP CG : Addr) : List V → Hp → VK → Prop := fun vs H Q => ∃ (a : Addr) (v : V) (r : PR) (st : PSt) (P : ProgD) (x : StepD), vs = [.ref a, v] ∧ Dat K (hideL H (OW a r)) v (encStep x) ∧ PAt CP H a r st (hereM P st.opened) ∧ (ownP r).Nodup ∧ GAt K CG (hideL H (OW a r)) r.G r.vp r.vf r.vr P ∧ WF P ∧ SZ P ∧ PZ P st ∧ StepOk P st x ∧
  ∀ v r' H', StepP CP H a r (stepM P x st) (hereM P (stepOpened st x)) r' H' → Q v H'
theorem ok_do (F : Fun K "do" "Process.do" s_do f fd) (C : Gk mg K) (m_open : Met P w K mg base 3 CP "open_door" (spG (QOpen K CP CG))) (m_close : Met P w K mg base 3 CP "close_door" (spG (QClose K CP CG))) : FnOk P w K mg base CX0 4 f fd ["self", "step"] (spG (QDo K CP CG)) := by
  refine fn_W F sc_do (fun vs H Q h => ?_) (fun cdv A outer s H E vs Q oo h => ?_)
  · obtain ⟨a, v, r, st, G, x, rfl, _⟩ := h
    rfl
  · obtain ⟨a, v, r, st, G, x, rfl, dv, p, nd, g, hw, hz, pz, hx, hQ⟩ := h
    have el0 : ∀ {H' : Hp}, Same (hideL H (OW a r)) H' → EL K H' [some (.raw (.ref a)), some (encStep x)] [some (.ref a), some v] := fun s => .cons (.raw _) (.cons (dv.mono s) .nil)
    -- nothing changes but what is new
    have key : ∀ (H1 : Hp), Same H H1 → ∀ r' st' hs' H', StepP CP H1 a r st' hs' r' H' → StepP CP H a r st' hs' r' H' := fun H1 s1 r' st' hs' H' q =>
      ⟨q.at_, (hideL_mono s1).trans q.same, fun x hx => (q.own x hx).imp id fun h => s1.free h, q.nd, q.G, q.vp, q.vf, q.vr⟩
    cases x with
    | op k =>
      refine ws_ifE (z := false) (et_is (by decide +kernel) (et_cmp od_eqS (ee_ix (d := .str sOpen) (ee_var 1 rfl) ee_int rfl) (ee_gc C.CALL))) (el0 hideL_same) (fun z => by cases z) fun _ H1 s1 => ws_nil ?_
      refine ws_ret (we_of (pe_ifExp pt_w pe_w pe_w) (wt_et (z := true) (et_is (by decide +kernel) (et_cmp od_eqS (ee_ix (d := .str sOpen) (ee_var 1 rfl) ee_int rfl) (ee_gc C.OPEN))) (el0 (hideL_same.trans s1)) fun H2 s2 => iteT ?_))
      have s02 := s1.trans s2
      have p2 := p.mono s02
      refine we_met m_open oo (by decide) (we_var 0 rfl ⟨a, rfl, p2.at rfl, wa_cons (we_ee (ee_ix (d := dNat k) (ee_var 1 rfl) ee_int rfl) (el0 (hideL_same.trans s02)) fun u H3 s3 du => ?_)⟩)
      cases du
      exact wa_nil ⟨a, r, st, G, k, rfl, p2.mono s3, nd, g.mono (hideL_mono (s02.trans s3)), hw, hz, pz, hx, fun v r' H' q => hQ v r' H' (key _ (s02.trans s3) _ _ _ _ q)⟩
    | cl k =>
      refine ws_ifE (z := false) (et_is (by decide +kernel) (et_cmp od_eqS (ee_ix (d := .str sClose) (ee_var 1 rfl) ee_int rfl) (ee_gc C.CALL))) (el0 hideL_same) (fun z => by cases z) fun _ H1 s1 => ws_nil ?_
      refine ws_ret (we_of (pe_ifExp pt_w pe_w pe_w) (wt_et (z := false) (et_is (by decide +kernel) (et_cmp od_eqS (ee_ix (d := .str sClose) (ee_var 1 rfl) ee_int rfl) (ee_gc C.OPEN))) (el0 (hideL_same.trans s1)) fun H2 s2 => iteF ?_))
      have s02 := s1.trans s2
      have p2 := p.mono s02
      refine we_met m_close oo (by decide) (we_var 0 rfl ⟨a, rfl, p2.at rfl, wa_cons (we_ee (ee_ix (d := dNat k) (ee_var 1 rfl) ee_int rfl) (el0 (hideL_same.trans s02)) fun u H3 s3 du => ?_)⟩)
      cases du
      exact wa_nil ⟨a, r, st, G, k, rfl, p2.mono s3, nd, g.mono (hideL_mono (s02.trans s3)), hw, hz, pz, hx, fun v r' H' q => hQ v r' H' (key _ (s02.trans s3) _ _ _ _ q)⟩
end
end K74

set_option Elab.async false
set_option linter.all false
set_option maxRecDepth 100000
set_option maxHeartbeats 4000000
/-! K74.KM2: the walk's mirror, its invariants, its end; what is found alone. -/
namespace K74
open PySem

abbrev BaseD := List Int × List Nat × List S × List S
def baseOf (st : PSt) : BaseD := (st.counts, st.opened, st.pub, sortS st.deep)
structure ItemD where
  st : PSt
  steps : List StepD
def stepsFor (P : ProgD) (st : PSt) : List StepD := ((List.range P.doors.length).filter fun k => decide (k ∈ st.opened)).map .cl ++ ((List.range P.doors.length).filter fun k => !decide (k ∈ st.opened)).map .op
def inner1 (P : ProgD) (it : ItemD) (acc : List BaseD × List ItemD) (x : StepD) : List BaseD × List ItemD :=
  if baseOf (stepM P x it.st) ∈ acc.1 then acc else (acc.1 ++ [baseOf (stepM P x it.st)], acc.2 ++ [⟨stepM P x it.st, it.steps ++ [x]⟩])
def innerM (P : ProgD) (acc : List BaseD × List ItemD) (it : ItemD) : List BaseD × List ItemD := (stepsFor P it.st).foldl (inner1 P it) acc
def layerM (P : ProgD) (layer : List ItemD) (acc : List BaseD × List ItemD) : List BaseD × List ItemD := layer.foldl (innerM P) acc
def walkGo (P : ProgD) : Nat → List BaseD → List ItemD → List ItemD → List ItemD
  | 0, _, found, _ => found
  | n + 1, known, found, layer => match layer with
    | [] => found
    | it :: r => walkGo P n (layerM P (it :: r) (known, [])).1 (found ++ it :: r) (layerM P (it :: r) (known, [])).2
/-- bounds of a program that is walked -/
structure WK (P : ProgD) : Prop where
  wf : WF P
  sz : SZ P
  libs : P.libs.length ≤ 4
  doors : P.doors.length ≤ 2
  pre : P.pre = []
def upTo {α : Type} (al : List α) : Nat → List (List α)
  | 0 => [[]]
  | n + 1 => [] :: (upTo al n).flatMap fun l => al.map fun a => a :: l
theorem upTo_mem {α : Type} {al : List α} : ∀ {n : Nat} {l : List α}, l.length ≤ n → (∀ x ∈ l, x ∈ al) → l ∈ upTo al n
  | 0, [], _, _ => List.mem_cons_self
  | 0, _ :: _, h, _ => by simp at h
  | n + 1, [], _, _ => List.mem_cons_self
  | n + 1, x :: r, h, hx => by
    refine List.mem_cons_of_mem _ (List.mem_flatMap.mpr ⟨r, upTo_mem (by simpa using h) fun y hy => hx y (List.mem_cons_of_mem _ hy), ?_⟩)
    exact List.mem_map.mpr ⟨x, hx x List.mem_cons_self, rfl⟩
theorem upTo_len {α : Type} {al : List α} {m : Nat} (h : al.length ≤ m) : ∀ n : Nat, (upTo al n).length ≤ (upTo (List.replicate m ()) n).length
  | 0 => Nat.le_refl _
  | n + 1 => by
    unfold upTo
    rw [List.length_cons, List.length_cons, List.length_flatMap, List.length_flatMap]
    have := upTo_len h n
    simp only [List.length_map, List.length_replicate, List.map_const', List.sum_replicate_nat]
    exact Nat.succ_le_succ (Nat.mul_le_mul this h)
def uniM (P : ProgD) : List BaseD := (upTo [0, 1] 2).flatMap fun a => (upTo [0, 1] 2).flatMap fun b => (upTo (names P) 4).flatMap fun c => (upTo (names P) 4).map fun d => (a, b, c, d)
def fuelU : Nat := 2 * 5698800
def walkM (P : ProgD) : List ItemD := walkGo P (fuelU + 1) [baseOf (st0 P)] [] [⟨st0 P, []⟩]

/-! ### what every state keeps -/
structure PInv (P : ProgD) (st : PSt) : Prop where
  clen : st.counts.length = P.doors.length
  cnt : ∀ k, k < P.doors.length → st.counts[k]? = some (if k ∈ st.opened then 1 else 0)
  ond : st.opened.Nodup
  olt : ∀ k ∈ st.opened, k < P.doors.length
  pnd : st.pub.Nodup
  psub : ∀ x ∈ st.pub, x ∈ names P
  dnd : st.deep.Nodup
  dsub : ∀ x ∈ st.deep, x ∈ hereM P st.opened
  deep : ∀ n ∈ hereM P st.opened, n ∉ firstM P → (∀ k ∈ doorsOf P n, modeOf P k = sDeep) → n ∈ st.deep
theorem hereM_names {P : ProgD} (hw : WF P) {os : List Nat} : ∀ x ∈ hereM P os, x ∈ names P := fun x hx => by
  rcases hereM_mem.mp hx with h | ⟨k, _, h⟩
  · exact firstM_names hw x h
  · exact doorRow_names hw x h
theorem PInv.st0 {P : ProgD} (W : WK P) : PInv P (st0 P) where
  clen := by simp [K74.st0]
  cnt k h := by simp [K74.st0, h]
  ond := List.nodup_nil
  olt k h := by cases h
  pnd := row_nodup _
  psub := firstM_names W.wf
  dnd := List.nodup_nil
  dsub x h := by cases h
  deep n h hf _ := by
    rcases hereM_mem.mp h with h | ⟨k, h, _⟩
    · exact absurd h hf
    · cases h
theorem nodup_app_filter {l r : List S} {p : S → Bool} (hl : l.Nodup) (hr : r.Nodup) (h : ∀ x ∈ r, p x = true → x ∉ l) : (l ++ r.filter p).Nodup := by
  rw [List.nodup_append]
  refine ⟨hl, hr.sublist List.filter_sublist, ?_⟩
  intro a ha b hb e
  subst e
  obtain ⟨h1, h2⟩ := List.mem_filter.mp hb
  exact h a h1 h2 ha
theorem PInv.step {P : ProgD} (W : WK P) {st : PSt} (I : PInv P st) {x : StepD} (hx : x ∈ stepsFor P st) : PInv P (stepM P x st) ∧ StepOk P st x := by
  unfold stepsFor at hx
  rcases List.mem_append.mp hx with h | h
  · obtain ⟨k, hk, rfl⟩ := List.mem_map.mp h
    obtain ⟨h1, h2⟩ := List.mem_filter.mp hk
    have hkl := List.mem_range.mp h1
    have hko : k ∈ st.opened := of_decide_eq_true h2
    have hsub : ∀ x, x ∈ hereM P (st.opened.erase k) → x ∈ hereM P st.opened := fun x hx => by
      rcases hereM_mem.mp hx with h | ⟨j, hj, h⟩
      · exact hereM_mem.mpr (.inl h)
      · exact hereM_mem.mpr (.inr ⟨j, List.mem_of_mem_erase hj, h⟩)
    refine ⟨⟨?_, ?_, ?_, ?_, ?_, ?_, ?_, ?_, ?_⟩, ?_, hko⟩
    · show (st.counts.set k 0).length = _
      rw [List.length_set]
      exact I.clen
    · intro j hj
      show (st.counts.set k 0)[j]? = some (if j ∈ st.opened.erase k then 1 else 0)
      by_cases e : k = j
      · subst e
        rw [List.getElem?_set_self (by rw [I.clen]; exact hj), if_neg (fun h => (I.ond.mem_erase_iff.mp h).1 rfl)]
      · rw [List.getElem?_set_ne e, I.cnt j hj]
        have : j ∈ st.opened.erase k ↔ j ∈ st.opened := List.mem_erase_of_ne (Ne.symm e)
        simp only [this]
    · exact I.ond.erase k
    · exact fun j hj => I.olt j (List.mem_of_mem_erase hj)
    · exact I.pnd.sublist List.filter_sublist
    · exact fun x hx => I.psub x (List.mem_filter.mp hx).1
    · exact I.dnd.sublist List.filter_sublist
    · exact fun x hx => of_decide_eq_true (List.mem_filter.mp hx).2
    · intro n hn hf hd
      exact List.mem_filter.mpr ⟨I.deep n (hsub n hn) hf hd, decide_eq_true hn⟩
    · have := I.cnt k hkl
      rw [if_pos hko] at this
      exact this
  · obtain ⟨k, hk, rfl⟩ := List.mem_map.mp h
    obtain ⟨h1, h2⟩ := List.mem_filter.mp hk
    have hkl := List.mem_range.mp h1
    have hko : k ∉ st.opened := by simpa using h2
    have hsup : ∀ x, x ∈ hereM P st.opened → x ∈ hereM P (st.opened ++ [k]) := fun x hx => by
      rcases hereM_mem.mp hx with h | ⟨j, hj, h⟩
      · exact hereM_mem.mpr (.inl h)
      · exact hereM_mem.mpr (.inr ⟨j, List.mem_append_left _ hj, h⟩)
    refine ⟨⟨?_, ?_, ?_, ?_, ?_, ?_, ?_, ?_, ?_⟩, hkl, ?_⟩
    · show (st.counts.set k 1).length = _
      rw [List.length_set]
      exact I.clen
    · intro j hj
      show (st.counts.set k 1)[j]? = some (if j ∈ st.opened ++ [k] then 1 else 0)
      by_cases e : k = j
      · subst e
        rw [List.getElem?_set_self (by rw [I.clen]; exact hj), if_pos (by simp)]
      · rw [List.getElem?_set_ne e, I.cnt j hj]
        have : j ∈ st.opened ++ [k] ↔ j ∈ st.opened := by simp [Ne.symm e]
        simp only [this]
    · show (st.opened ++ [k]).Nodup
      rw [List.nodup_append]
      refine ⟨I.ond, by simp, ?_⟩
      intro a ha b hb e
      have : b = k := by simpa using hb
      subst this
      subst e
      exact hko ha
    · intro j hj
      rcases List.mem_append.mp hj with h | h
      · exact I.olt j h
      · have : j = k := by simpa using h
        rw [this]
        exact hkl
    · show (if modeOf P k = sGlobal then st.pub ++ _ else st.pub).Nodup
      split
      · exact nodup_app_filter I.pnd doorRow_nodup fun x _ hx => by simpa using hx
      · exact I.pnd
    · intro x hx
      have hx' : x ∈ (if modeOf P k = sGlobal then st.pub ++ (doorRow P k).filter (fun n => !decide (n ∈ st.pub)) else st.pub) := hx
      split at hx'
      · rcases List.mem_append.mp hx' with h | h
        · exact I.psub x h
        · exact doorRow_names W.wf x (List.mem_filter.mp h).1
      · exact I.psub x hx'
    · show (if modeOf P k = sDeep then st.deep ++ _ else st.deep).Nodup
      split
      · exact nodup_app_filter I.dnd doorRow_nodup fun x _ hx hd => by
          have := I.dsub x hd
          simp [this] at hx
      · exact I.dnd
    · intro x hx
      have hx' : x ∈ (if modeOf P k = sDeep then st.deep ++ (doorRow P k).filter (fun n => !decide (n ∈ hereM P st.opened)) else st.deep) := hx
      show x ∈ hereM P (st.opened ++ [k])
      split at hx'
      · rcases List.mem_append.mp hx' with h | h
        · exact hsup x (I.dsub x h)
        · exact hereM_mem.mpr (.inr ⟨k, by simp, (List.mem_filter.mp h).1⟩)
      · exact hsup x (I.dsub x hx')
    · intro n hn hf hd
      show n ∈ (if modeOf P k = sDeep then st.deep ++ (doorRow P k).filter (fun n => !decide (n ∈ hereM P st.opened)) else st.deep)
      by_cases ho : n ∈ hereM P st.opened
      · have := I.deep n ho hf hd
        split
        · exact List.mem_append_left _ this
        · exact this
      · have hnr : n ∈ doorRow P k := by
          rcases hereM_mem.mp hn with h | ⟨j, hj, h⟩
          · exact absurd h hf
          · rcases List.mem_append.mp hj with hj | hj
            · exact absurd (hereM_mem.mpr (.inr ⟨j, hj, h⟩)) ho
            · have : j = k := by simpa using hj
              rw [← this]
              exact h
        rw [if_pos (hd k (List.mem_filter.mpr ⟨h1, decide_eq_true hnr⟩))]
        exact List.mem_append_right _ (List.mem_filter.mpr ⟨hnr, by simp [ho]⟩)
    · have := I.cnt k hkl
      rw [if_neg hko] at this
      exact this
theorem nodup_lenG {α : Type} [DecidableEq α] {l m : List α} (h : l.Nodup) (hs : ∀ x ∈ l, x ∈ m) : l.length ≤ m.length := by
  induction l generalizing m with
  | nil => exact Nat.zero_le _
  | cons a r ih =>
    obtain ⟨ha, hr⟩ := List.nodup_cons.mp h
    have hm : a ∈ m := hs a List.mem_cons_self
    have h1 : r.length ≤ (m.erase a).length := ih hr fun x hx => by
      have ne : x ≠ a := fun e => ha (e ▸ hx)
      exact (List.mem_erase_of_ne ne).mpr (hs x (List.mem_cons_of_mem _ hx))
    have h2 := List.length_erase_of_mem hm
    have h3 : 0 < m.length := List.length_pos_of_mem hm
    rw [List.length_cons]
    omega
theorem names_len4 {P : ProgD} (W : WK P) {l : List S} (hn : l.Nodup) (h : ∀ x ∈ l, x ∈ names P) : l.length ≤ 4 := by
  have h1 := nodup_len hn h
  have := W.libs
  rw [names, List.length_map] at h1
  omega
theorem PInv.olen {P : ProgD} (W : WK P) {st : PSt} (I : PInv P st) : st.opened.length ≤ 2 := by
  have := nodup_lenG I.ond (m := List.range P.doors.length) fun x hx => List.mem_range.mpr (I.olt x hx)
  rw [List.length_range] at this
  have := W.doors
  omega
theorem PInv.pz {P : ProgD} (W : WK P) {st : PSt} (I : PInv P st) : PZ P st := by
  have h1 := I.olen W
  have h2 := names_len4 W I.pnd I.psub
  have h3 := names_len4 W I.dnd fun x hx => hereM_names W.wf x (I.dsub x hx)
  exact ⟨⟨by omega, I.olt⟩, ⟨by omega, I.psub⟩, by omega⟩
theorem PInv.uni {P : ProgD} (W : WK P) {st : PSt} (I : PInv P st) : baseOf st ∈ uniM P := by
  have hd := W.doors
  refine List.mem_flatMap.mpr ⟨st.counts, upTo_mem (by rw [I.clen]; exact hd) fun x hx => ?_, List.mem_flatMap.mpr ⟨st.opened, upTo_mem (I.olen W) fun x hx => ?_, List.mem_flatMap.mpr ⟨st.pub, upTo_mem (names_len4 W I.pnd I.psub) I.psub, List.mem_map.mpr ⟨sortS st.deep, upTo_mem ?_ fun x hx => ?_, rfl⟩⟩⟩⟩
  · obtain ⟨j, hj⟩ := List.mem_iff_getElem?.mp hx
    have hjl : j < st.counts.length := (List.getElem?_eq_some_iff.mp hj).1
    rw [I.cnt j (by rw [← I.clen]; exact hjl)] at hj
    have := Option.some.inj hj
    subst this
    split
    · exact List.mem_cons_of_mem _ List.mem_cons_self
    · exact List.mem_cons_self
  · have := I.olt x hx
    have h2 : x = 0 ∨ x = 1 := by omega
    rcases h2 with h | h
    · rw [h]; exact List.mem_cons_self
    · rw [h]; exact List.mem_cons_of_mem _ List.mem_cons_self
  · rw [(sortS_perm st.deep).length_eq]
    exact names_len4 W I.dnd fun x hx => hereM_names W.wf x (I.dsub x hx)
  · exact hereM_names W.wf x (I.dsub x ((sortS_perm st.deep).mem_iff.mp hx))
theorem uniM_len {P : ProgD} (W : WK P) : (uniM P).length ≤ 5698800 := by
  have hn : (names P).length ≤ 4 := by rw [names, List.length_map]; exact W.libs
  have h1 : (upTo (names P) 4).length ≤ 341 := Nat.le_trans (upTo_len hn 4) (by decide +kernel)
  have h2 : (upTo ([0, 1] : List Int) 2).length = 7 := by decide +kernel
  have h3 : (upTo ([0, 1] : List Nat) 2).length = 7 := by decide +kernel
  have g : ∀ {α β : Type} (l : List α) (f : α → List β) (c : Nat), (∀ x, (f x).length ≤ c) → (l.flatMap f).length ≤ l.length * c := fun l f c h => by
    rw [List.length_flatMap]
    induction l with
    | nil => simp
    | cons x r ih =>
      rw [List.map_cons, List.sum_cons, List.length_cons, Nat.succ_mul, Nat.add_comm]
      exact Nat.add_le_add ih (h x)
  unfold uniM
  refine Nat.le_trans (g _ _ (7 * (341 * 341)) fun a => ?_) (by rw [h2]; decide)
  refine Nat.le_trans (g _ _ (341 * 341) fun b => ?_) (by rw [h3]; exact Nat.le_refl _)
  refine Nat.le_trans (g _ _ 341 fun c => ?_) (Nat.mul_le_mul_right _ h1)
  rw [List.length_map]
  exact h1

/-! ### the walk -/
structure KInv (P : ProgD) (known : List BaseD) : Prop where
  nd : known.Nodup
  sub : ∀ b ∈ known, b ∈ uniM P
theorem KInv.len {P : ProgD} (W : WK P) {known : List BaseD} (h : KInv P known) : known.length ≤ 5698800 := Nat.le_trans (nodup_lenG h.nd h.sub) (uniM_len W)
/-- what one layer keeps -/
structure AInv (P : ProgD) (k0 : Nat) (acc : List BaseD × List ItemD) : Prop where
  known : KInv P acc.1
  later : ∀ it ∈ acc.2, PInv P it.st
  len : acc.1.length = k0 + acc.2.length
  stl : ∀ it ∈ acc.2, it.steps.length < acc.1.length
theorem AInv.step {P : ProgD} (W : WK P) {k0 : Nat} {acc : List BaseD × List ItemD} (A : AInv P k0 acc) {it : ItemD} (I : PInv P it.st) (hs : it.steps.length < k0) {x : StepD} (hx : x ∈ stepsFor P it.st) : AInv P k0 (inner1 P it acc x) := by
  unfold inner1
  split
  · exact A
  · rename_i hn
    have I' := (I.step W hx).1
    refine ⟨⟨?_, ?_⟩, ?_, ?_, ?_⟩
    · show (acc.1 ++ [baseOf (stepM P x it.st)]).Nodup
      rw [List.nodup_append]
      refine ⟨A.known.nd, by simp, ?_⟩
      intro a ha b hb e
      have : b = baseOf (stepM P x it.st) := by simpa using hb
      subst this
      subst e
      exact hn ha
    · intro b hb
      rcases List.mem_append.mp hb with h | h
      · exact A.known.sub b h
      · have : b = baseOf (stepM P x it.st) := by simpa using h
        rw [this]
        exact I'.uni W
    · intro j hj
      rcases List.mem_append.mp hj with h | h
      · exact A.later j h
      · have : j = ⟨stepM P x it.st, it.steps ++ [x]⟩ := by simpa using h
        rw [this]
        exact I'
    · have := A.len
      show (acc.1 ++ [_]).length = k0 + (acc.2 ++ [_]).length
      rw [List.length_append, List.length_append, this]
      rfl
    · intro j hj
      show j.steps.length < (acc.1 ++ [_]).length
      rw [List.length_append]
      rcases List.mem_append.mp hj with h | h
      · have := A.stl j h
        omega
      · have : j = ⟨stepM P x it.st, it.steps ++ [x]⟩ := by simpa using h
        rw [this]
        have := A.len
        show (it.steps ++ [x]).length < _
        rw [List.length_append]
        simp only [List.length_cons, List.length_nil]
        omega
theorem AInv.fold {P : ProgD} (W : WK P) {k0 : Nat} {it : ItemD} (I : PInv P it.st) (hs : it.steps.length < k0) : ∀ (xs : List StepD), (∀ x ∈ xs, x ∈ stepsFor P it.st) → ∀ {acc : List BaseD × List ItemD}, AInv P k0 acc → AInv P k0 (xs.foldl (inner1 P it) acc)
  | [], _, _, A => A
  | x :: r, hx, _, A => AInv.fold W I hs r (fun y hy => hx y (List.mem_cons_of_mem _ hy)) (A.step W I hs (hx x List.mem_cons_self))
theorem AInv.item {P : ProgD} (W : WK P) {k0 : Nat} {it : ItemD} (I : PInv P it.st) (hs : it.steps.length < k0) {acc : List BaseD × List ItemD} (A : AInv P k0 acc) : AInv P k0 (innerM P acc it) := AInv.fold W I hs _ (fun _ h => h) A
theorem AInv.layer {P : ProgD} (W : WK P) {k0 : Nat} : ∀ (l : List ItemD), (∀ it ∈ l, PInv P it.st ∧ it.steps.length < k0) → ∀ {acc : List BaseD × List ItemD}, AInv P k0 acc → AInv P k0 (layerM P l acc)
  | [], _, _, A => A
  | it :: r, h, _, A => AInv.layer W r (fun y hy => h y (List.mem_cons_of_mem _ hy)) (A.item W (h it List.mem_cons_self).1 (h it List.mem_cons_self).2)
theorem walkGo_inv {P : ProgD} (W : WK P) : ∀ (n : Nat) {known : List BaseD} {found layer : List ItemD}, KInv P known → (∀ it ∈ found, PInv P it.st) → (∀ it ∈ layer, PInv P it.st ∧ it.steps.length < known.length) → ∀ it ∈ walkGo P n known found layer, PInv P it.st
  | 0, _, _, _, _, hf, _ => hf
  | n + 1, known, found, [], _, hf, _ => hf
  | n + 1, known, found, it :: r, hk, hf, hl => by
    have A := AInv.layer W (k0 := known.length) (it :: r) hl (acc := (known, [])) ⟨hk, (fun _ h => by cases h), by simp, (fun _ h => by cases h)⟩
    exact walkGo_inv W n A.known (fun j hj => by
      rcases List.mem_append.mp hj with h | h
      · exact hf j h
      · exact (hl j h).1) fun j hj => ⟨A.later j hj, A.stl j hj⟩
theorem walkM_inv {P : ProgD} (W : WK P) : ∀ it ∈ walkM P, PInv P it.st := by
  have I0 := PInv.st0 W
  refine walkGo_inv W _ ⟨by simp, fun b hb => ?_⟩ (fun _ h => by cases h) fun it hit => ?_
  · have : b = baseOf (st0 P) := by simpa using hb
    rw [this]
    exact I0.uni W
  · have : it = ⟨st0 P, []⟩ := by simpa using hit
    rw [this]
    exact ⟨I0, by show 0 < 1; decide⟩

/-! ### what is found alone -/
/-- each answer once, as it comes -/
def addA (l : List Ans) (a : Ans) : List Ans := if a ∈ l then l else l ++ [a]
def aloneM (P : ProgD) (n : S) (i : Nat) : List Ans := ((walkM P).filter fun it => decide (n ∈ hereM P it.st.opened)).foldl (fun l it => addA l (foundM P it.st n (useAt P n i))) []
theorem addA_mem {l : List Ans} {a b : Ans} : b ∈ addA l a ↔ b ∈ l ∨ b = a := by
  unfold addA
  split
  · rename_i h
    constructor
    · exact Or.inl
    · rintro (h1 | rfl)
      · exact h1
      · exact h
  · simp
theorem aloneM_mem {P : ProgD} {n : S} {i : Nat} {a : Ans} : a ∈ aloneM P n i ↔ ∃ it ∈ walkM P, n ∈ hereM P it.st.opened ∧ a = foundM P it.st n (useAt P n i) := by
  have g : ∀ (xs : List ItemD) (l : List Ans), a ∈ xs.foldl (fun l it => addA l (foundM P it.st n (useAt P n i))) l ↔ a ∈ l ∨ ∃ it ∈ xs, a = foundM P it.st n (useAt P n i) := by
    intro xs
    induction xs with
    | nil => intro l; simp
    | cons x r ih =>
      intro l
      rw [List.foldl_cons, ih, addA_mem]
      simp only [List.mem_cons, exists_eq_or_imp]
      rw [or_assoc]
  unfold aloneM
  rw [g]
  simp only [List.not_mem_nil, false_or, List.mem_filter, decide_eq_true_eq]
  constructor
  · rintro ⟨it, ⟨h1, h2⟩, h3⟩
    exact ⟨it, h1, h2, h3⟩
  · rintro ⟨it, h1, h2, h3⟩
    exact ⟨it, ⟨h1, h2⟩, h3⟩
theorem server_addNew' {P : ProgD} {u : UseD} {xs : List S} : server P (addNew [] xs) u = server P xs u := by
  have g : ∀ (xs f : List S), server P (addNew f xs) u = server P (f ++ xs) u := by
    intro xs
    induction xs with
    | nil => intro f; simp [addNew]
    | cons x r ih =>
      intro f
      show server P (addNew (add1 f x) r) u = _
      rw [ih]
      unfold add1
      split
      · rename_i h
        rw [server_append, server_append]
        cases hq : server P f u with
        | some a => rfl
        | none =>
          have hx := server_none_iff.mp hq x h
          show server P r u = server P (x :: r) u
          unfold server
          rw [List.findSome?_cons, hx]
      · rw [List.append_assoc]
        rfl
  exact g xs []
theorem aloneM_ok {P : ProgD} (W : WK P) : AloneOk P (aloneM P) := by
  refine ⟨fun n i a hf hd b hb => ?_⟩
  obtain ⟨it, hit, hh, rfl⟩ := aloneM_mem.mp hb
  have I := walkM_inv W it hit
  have hdeep := I.deep n hh hf fun k hk => (hd k hk).1
  have hk : ∃ k ∈ it.st.opened, n ∈ doorRow P k := by
    rcases hereM_mem.mp hh with h | h
    · exact absurd h hf
    · exact h
  unfold foundM looksM
  rw [if_neg (show n ∉ firstM P from hf), if_pos hdeep, server_addNew', server_append]
  have hnear : server P (nearM P it.st.opened n) (useAt P n i) = some a := by
    unfold nearM
    have hall : ∀ k ∈ it.st.opened.filter (fun k => decide (n ∈ doorRow P k)), server P (doorRow P k) (useAt P n i) = some a := fun k hk => by
      obtain ⟨h1, h2⟩ := List.mem_filter.mp hk
      exact (hd k (List.mem_filter.mpr ⟨List.mem_range.mpr (I.olt k h1), h2⟩)).2
    obtain ⟨k, hk1, hk2⟩ := hk
    have hmem : k ∈ it.st.opened.filter (fun k => decide (n ∈ doorRow P k)) := List.mem_filter.mpr ⟨hk1, decide_eq_true hk2⟩
    cases hq : it.st.opened.filter (fun k => decide (n ∈ doorRow P k)) with
    | nil => rw [hq] at hmem; cases hmem
    | cons k0 r =>
      rw [List.flatMap_cons, server_append, hall k0 (by rw [hq]; exact List.mem_cons_self)]
      rfl
  rw [hnear]
  rfl
end K74

set_option Elab.async false
set_option linter.all false
set_option maxRecDepth 100000
set_option maxHeartbeats 4000000
/-! K74.KN1: a dict whose keys are nested tuples. -/
namespace K74
open PySem PySem.Spec PyProof.Rows L2

mutual
def nkey : D → NestedKey
  | .non => .none
  | .bl b => .num (if b = true then 1 else 0)
  | .int i => .num i
  | .str x => .text x
  | .tup ds => .tup (nkeys ds)
  | _ => .none
def nkeys : List D → List NestedKey
  | [] => []
  | d :: ds => nkey d :: nkeys ds
end
theorem nkeys_map : ∀ ds : List D, nkeys ds = ds.map nkey
  | [] => rfl
  | d :: ds => by
    show nkey d :: nkeys ds = _
    rw [nkeys_map ds]
    rfl
section
variable {X : Cx} {pins : List (Addr × Obj)} {σ : L2.St} {H : Hp} {s : Shared}
theorem nested_of (I : Inv X pins σ H s) : ∀ (n : Nat) {v : V} {d : D} {u : Value}, Dat X.K H v d → RelV v u → d.flatT n = true → NestedIs s.heap (nkey d) u ∧ (nkey d).depth ≤ n
  | n, _, _, u, .non, r, _ => by
    cases (show u = Value.none from r)
    exact ⟨.none, Nat.zero_le _⟩
  | n, _, _, u, .bl b, r, _ => by
    cases (show u = Value.bool b from r)
    exact ⟨.bool rfl, Nat.zero_le _⟩
  | n, _, _, u, .int i, r, _ => by
    obtain ⟨t, rfl⟩ := (show ∃ t, u = Value.int i t from r)
    exact ⟨.int i t, Nat.zero_le _⟩
  | n, _, _, u, .str x, r, _ => by
    obtain ⟨t, rfl⟩ := (show ∃ t, u = Value.str x t from r)
    exact ⟨.text x t, Nat.zero_le _⟩
  | 0, _, _, _, .lst _ _, _, h => by cases h
  | _ + 1, _, _, _, .lst _ _, _, h => by cases h
  | 0, _, _, _, .raw _, _, h => by cases h
  | _ + 1, _, _, _, .raw _, _, h => by cases h
  | 0, _, _, _, .tup _ _, _, h => by cases h
  | n + 1, _, _, u, .tup (a := a) (vs := vs) (ds := ds) hq hd, r, h => by
    have h1 : (ds.all (D.flatT n) && decide (ds.length ≤ 64)) = true := h
    rw [Bool.and_eq_true, List.all_eq_true] at h1
    cases (show u = Value.ref a from r)
    obtain ⟨its, rv, ⟨o, ho, hc, m, hd'⟩, hz⟩ := I.tuple hq
    have all : ∀ {vs : List V} {ds : List D} {us : List Value}, DatAll X.K H vs ds → Vals vs us → (∀ d ∈ ds, d.flatT n = true) → NestedAll s.heap (nkeys ds) us ∧ NestedKey.depthAll (nkeys ds) ≤ n := fun {vs ds us} hd r => by
      induction vs generalizing ds us with
      | nil =>
        cases hd
        cases r
        exact fun _ => ⟨.nil, Nat.zero_le _⟩
      | cons v vs ih =>
        cases hd with
        | cons h t =>
          cases r with
          | cons r rr =>
            intro hf
            obtain ⟨a1, a2⟩ := nested_of I n h r (hf _ List.mem_cons_self)
            obtain ⟨b1, b2⟩ := ih t rr fun d hd => hf d (List.mem_cons_of_mem _ hd)
            exact ⟨.cons a1 b1, Nat.max_le.mpr ⟨a2, b2⟩⟩
    obtain ⟨b1, b2⟩ := all hd rv h1.1
    exact ⟨.tup ho hc hd' (by simpa using b1), Nat.succ_le_succ b2⟩
end
/-- the dict's one object: its entries -/
def knO (P : Program) (w : World) (d : Addr) (ks : List (NestedKey × Addr)) : HO := .ext fun h => (d == sysModules) = false ∧ ∃ o es ep, h.get? d = some o ∧ o.ExactDict ∧ o.data = .dict es ep ∧ es.toList = ks.map (fun x => entryOfKey (nestedKind P w) (x.1, x.2, .bool true)) ∧ (ks.map (·.1)).Nodup
inductive KsAt (K : PySem.W.Frag) (H : Hp) : List (NestedKey × Addr) → List D → Prop
  | nil : KsAt K H [] []
  | cons {q : Addr} {b : D} {ks : List (NestedKey × Addr)} {bs : List D} : Dat K H (.ref q) b → b.flatT 8 = true → KsAt K H ks bs → KsAt K H ((nkey b, q) :: ks) (b :: bs)
def KnAt (P : Program) (w : World) (K : PySem.W.Frag) (H : Hp) (d : Addr) (bs : List D) : Prop := ∃ ks, H d = some (knO P w d ks) ∧ KsAt K H ks bs
theorem KsAt.keep {K : PySem.W.Frag} {H H' : Hp} (k : ∀ {v : V} {d : D}, Dat K H v d → Dat K H' v d) : ∀ {ks : List (NestedKey × Addr)} {bs : List D}, KsAt K H ks bs → KsAt K H' ks bs
  | _, _, .nil => .nil
  | _, _, .cons h f t => .cons (k h) f (KsAt.keep k t)
theorem KsAt.keys {K : PySem.W.Frag} {H : Hp} : ∀ {ks : List (NestedKey × Addr)} {bs : List D}, KsAt K H ks bs → ks.map (·.1) = bs.map nkey
  | _, _, .nil => rfl
  | _, _, .cons _ _ t => by rw [List.map_cons, List.map_cons, KsAt.keys t]
theorem KsAt.append {K : PySem.W.Frag} {H : Hp} {q : Addr} {b : D} (h : Dat K H (.ref q) b) (f : b.flatT 8 = true) : ∀ {ks : List (NestedKey × Addr)} {bs : List D}, KsAt K H ks bs → KsAt K H (ks ++ [(nkey b, q)]) (bs ++ [b])
  | _, _, .nil => .cons h f .nil
  | _, _, .cons h' f' t => .cons h' f' (KsAt.append h f t)
theorem KnAt.mono {P : Program} {w : World} {K : PySem.W.Frag} {H H' : Hp} {d : Addr} {bs : List D} (s : Same H H') (h : KnAt P w K H d bs) : KnAt P w K H' d bs := let ⟨ks, h1, h2⟩ := h; ⟨ks, s _ _ h1, h2.keep fun h => h.mono s⟩
/-- an object of another kind is no part of data -/
theorem Dat.besideX {K : PySem.W.Frag} {H : Hp} {a : Addr} {φ : Heap → Prop} {o : HO} (ha : H a = some (.ext φ)) {v : V} {d : D} (h : Dat K H v d) : Dat K (upd H a o) v d :=
  Dat.keep2 (fun b vs e => by rw [upd_ne (fun z => by subst z; rw [ha] at e; cases e)]; exact e) (fun b xs e => by
    rcases e with e | e
    · have ne : b ≠ a := fun z => by
        subst z
        rcases e with e | ⟨_, e⟩ <;> (rw [ha] at e; cases e)
      rcases e with e | ⟨ob, e⟩
      · exact .inl (.inl (by rw [upd_ne ne]; exact e))
      · exact .inl (.inr ⟨ob, by rw [upd_ne ne]; exact e⟩)
    · exact .inr e) h
section
variable {X : Cx} {pins : List (Addr × Obj)} {σ : L2.St} {H : Hp} {s : Shared} {k : Nat}
theorem KsAt.is (I : Inv X pins σ H s) : ∀ {ks : List (NestedKey × Addr)} {bs : List D}, KsAt X.K H ks bs → ∀ x ∈ ks, (nestedKind X.prog X.w).is s.heap x.1 x.2
  | _, _, .nil, x, hx => by cases hx
  | _, _, .cons h f t, x, hx => by
    rcases List.mem_cons.mp hx with rfl | hx
    · obtain ⟨a1, a2⟩ := nested_of I 8 h rfl f
      exact ⟨a1, a2⟩
    · exact KsAt.is I t x hx
def knX (ks : List (NestedKey × Addr)) : List (NestedKey × Addr × Value) := ks.map fun x => (x.1, x.2, .bool true)
theorem kn_of (I : Inv X pins σ H s) {d : Addr} {ks : List (NestedKey × Addr)} {bs : List D} (h : H d = some (knO X.prog X.w d ks)) (t : KsAt X.K H ks bs) : (d == sysModules) = false ∧ s.heap.DictOfH (nestedKind X.prog X.w) d (knX ks) := by
  obtain ⟨⟨hd, o, es, ep, h1, h2, h3, h4, h5⟩, _⟩ := I.hok d _ h
  refine ⟨hd, o, es, ep, h1, h2, h3, by rw [h4, knX, List.map_map]; rfl, fun x hx => ?_, by rw [knX, List.map_map]; exact h5⟩
  obtain ⟨y, hy, rfl⟩ := List.mem_map.mp hx
  exact t.is I y hy
theorem kn_ok {P : Program} {w : World} {H : Hp} {h : Heap} {d : Addr} {ks : List (NestedKey × Addr)} (hd : (d == sysModules) = false) (x : h.DictOfH (nestedKind P w) d (knX ks)) : ObjOk P w H h d (knO P w d ks) := by
  obtain ⟨o, es, ep, h1, h2, h3, h4, h5, h6⟩ := x
  refine ⟨⟨hd, o, es, ep, h1, h2, h3, by rw [h4, knX, List.map_map]; rfl, by rw [knX, List.map_map] at h6; exact h6⟩, ⟨o, h1⟩, ?_⟩
  rintro g1 g2 ⟨_, o', es', ep', e1, e2, e3, e4, e5⟩ hg
  exact ⟨hd, o', es', ep', hg _ e1, e2, e3, e4, e5⟩
theorem kn_at {ks : List (NestedKey × Addr)} {k : NestedKey} : (atKey (knX ks) k).isSome = decide (k ∈ ks.map (·.1)) := by
  rw [← any_pairsH]
  unfold pairsH knX
  induction ks with
  | nil => rfl
  | cons x r ih =>
    rw [List.map_cons, List.map_cons, List.any_cons, ih, List.map_cons]
    by_cases h : x.1 = k
    · simp [h]
    · have h' : ¬ k = x.1 := fun e => h e.symm
      simp [h, h']
def rNotInKn (X : Cx) : R2 := fun x y H Q => ∃ (d q : Addr) (bs : List D) (b : D), x = .ref q ∧ y = .ref d ∧ KnAt X.prog X.w X.K H d bs ∧ Dat X.K H (.ref q) b ∧ b.flatT 8 = true ∧ Q (.bl (!decide (nkey b ∈ bs.map nkey))) H
theorem op_notInKn (o : Ok X k) : OpR X (compareOp .NotIn) (rNotInKn X) := by
  intro pins s σ H x y v u Q I rx ry h
  obtain ⟨d, q, bs, b, rfl, rfl, ⟨ks, h1, h2⟩, db, fb, hq⟩ := h
  cases rx
  cases ry
  obtain ⟨hd, hx⟩ := kn_of I h1 h2
  have hu := o.units
  have hkey : (nestedKind X.prog X.w).is s.heap (nkey b) q := by
    obtain ⟨a1, a2⟩ := nested_of I 8 db rfl fb
    exact ⟨a1, a2⟩
  refine notIn_keyed (knd := nestedKind X.prog X.w) (k := nkey b) (show X.A.in1.units + 8 < cLine by
    have : X.A.in1.units = X.A.units + 1 := (by simp)
    omega) hkey hd ⟨_, hx, rfl⟩ ?_
  have e : (valueAt (pairsH (knX ks)) (nkey b)).isSome = decide (nkey b ∈ bs.map nkey) := by
    rw [valueAt_pairsH, Option.isSome_map, kn_at, h2.keys]
  rw [e]
  exact ⟨.bl _, H, I.tok _, rfl, hq⟩
def rSetKn (X : Cx) : TSet := fun o i v H Q => ∃ (d q : Addr) (bs : List D) (b : D), o = .ref d ∧ i = .ref q ∧ v = .bl true ∧ KnAt X.prog X.w X.K H d bs ∧ Dat X.K H (.ref q) b ∧ b.flatT 8 = true ∧ nkey b ∉ bs.map nkey ∧ bs.length < sizeLine ∧ ∀ ob, KnAt X.prog X.w X.K (upd H d ob) d (bs ++ [b]) → Q (upd H d ob)
theorem set_kn (o : Ok X k) : PSet X (rSetKn X) := by
  intro pins s σ H ov iv v o' i' u Q I ro ri rv h
  obtain ⟨d, q, bs, b, rfl, rfl, rfl, ⟨ks, h1, h2⟩, db, fb, hn, hl, hq⟩ := h
  cases ro
  cases ri
  cases (show u = Value.bool true from rv)
  obtain ⟨hd, hx⟩ := kn_of I h1 h2
  have hu := o.units
  have hkey : (nestedKind X.prog X.w).is s.heap (nkey b) q := by
    obtain ⟨a1, a2⟩ := nested_of I 8 db rfl fb
    exact ⟨a1, a2⟩
  have hkl : ks.length = bs.length := by
    have := congrArg List.length h2.keys
    simpa using this
  refine wpAny_setItem_heap (knd := nestedKind X.prog X.w) (k := nkey b) (hsz := by rw [knX, List.length_map]; omega) (show X.A.in1.units + 8 < cLine by
    have : X.A.in1.units = X.A.units + 1 := (by simp)
    omega) hkey hx fun h' hx' hs => ?_
  have hnone : atKey (knX ks) (nkey b) = none := by
    have := kn_at (ks := ks) (k := nkey b)
    rw [h2.keys, decide_eq_false hn] at this
    cases q : atKey (knX ks) (nkey b) with
    | none => rfl
    | some z => rw [q] at this; cases this
  rw [storedH_new hnone] at hx'
  have e : knX ks ++ [(nkey b, q, Value.bool true)] = knX (ks ++ [(nkey b, q)]) := by unfold knX; rw [List.map_append]; rfl
  rw [e] at hx'
  have I' : Inv X pins σ (upd H d (knO X.prog X.w d (ks ++ [(nkey b, q)]))) { s with heap := h', toks := s.toks + (nestedKind X.prog X.w).draws (nkey b) } :=
    d_write I (by rw [h1]; exact True.intro) hs (let ⟨o, _, _, h, _⟩ := hx'; ⟨o, h⟩) (kn_ok hd hx')
  refine ⟨_, I', hq _ ⟨ks ++ [(nkey b, q)], upd_same, KsAt.append (Dat.besideX h1 db) fb (h2.keep fun h => Dat.besideX h1 h)⟩⟩
theorem nkey_inj_mem {b : D} {bs : List D} (h : nkey b ∈ bs.map nkey) : ∃ c ∈ bs, nkey c = nkey b := List.mem_map.mp h
/-- {e: True} -/
theorem pe_kn1 {e : Expr} {j : Nat} {p1 pos : Pos} (o : Ok X k) {te : TE} (he : PE X e te)
    (hshape : (evalEachOpt [some e] X.env).zip ((evalEach [.Constant (.bool true) j p1] X.env).map fun v => do let x ← v; standAt pos; pure x) = ([(eval e X.env, do let x ← eval (.Constant (.bool true) j p1) X.env; standAt pos; pure x)] : List (Sem Value × Sem Value)).map fun p => (some p.1, p.2) := by rfl) :
    PE X (.Dict [some e] [.Constant (.bool true) j p1] pos) (fun σ H Q => ∀ d, H d = none → te σ (upd H d (knO X.prog X.w d [])) fun x H2 => ∃ q b, x = .ref q ∧ H2 d = some (knO X.prog X.w d []) ∧ Dat X.K H2 (.ref q) b ∧ b.flatT 8 = true ∧ ∀ ob, KnAt X.prog X.w X.K (upd H2 d ob) d [b] → Q (.ref d) (upd H2 d ob)) := by
  refine ⟨fun pins s σ H Q I h => ?_⟩
  have hd : (s.heap.objs.size == sysModules) = false := beq_eq_false_iff_ne.mpr (Ne.symm (Nat.ne_of_lt I.big))
  have h0 := h s.heap.objs.size (I.hok.fresh (Nat.le_refl _))
  have I1 : Inv X pins σ (upd H s.heap.objs.size (knO X.prog X.w s.heap.objs.size [])) { s with heap := s.heap.push { cls := .type "dict", data := .dict #[] } } :=
    I.laid (t' := s.toks) (fun _ _ q => Heap.get?_push_of_some _ q) (Nat.le_refl _) (kn_ok hd (ks := []) (Heap.DictOfH.new s.heap))
  have hu := o.units
  rw [arm_eval_Dict, hshape, dictDisplay_pairs _ (by simp) (by simp)]
  refine wpAny_bind (wpAny_standAt (wpAny_bind (wpAny_subDictH (knd := nestedKind X.prog X.w) (Q := fun d s' => wpAny (model X.prog X.w) X.A (pure (Value.ref d)) (EP X pins σ Q) X.xe s') (show X.A.units + 8 < cLine by omega) (by simp) ?_)))
  refine evalPairs_cons (thn (he.run pins _ σ _ _ I1 h0) fun u s2 ⟨x, H2, I2, rx, q, b, ex, hd2, db, fb, hq⟩ => ?_)
  subst ex
  cases rx
  refine wpAny_bind (thn ((pe_bl (X := X) (b := true) (j := j) (pos := p1)).run pins s2 σ H2 (fun v H' => v = .bl true ∧ H' = H2) I2 ⟨rfl, rfl⟩) fun u3 s3 ⟨x3, H3, I3, r3, e3, eH⟩ => wpAny_bind (wpAny_standAt (wpAny_pure ?_)))
  subst e3
  subst eH
  cases (show u3 = Value.bool true from r3)
  refine evalPairs_nil ?_
  obtain ⟨_, hx⟩ := kn_of I3 hd2 .nil
  have hkey : (nestedKind X.prog X.w).is s3.heap (nkey b) q := by
    obtain ⟨a1, a2⟩ := nested_of I3 8 db rfl fb
    exact ⟨a1, a2⟩
  refine ⟨[(nkey b, q, Value.bool true)], ⟨rfl, rfl, hkey, trivial⟩, hx, fun h' tk hx' hs => wpAny_pure ?_⟩
  have e : storedAllH [] [(nkey b, q, Value.bool true)] = knX [(nkey b, q)] := rfl
  rw [e] at hx'
  have I' : Inv X pins σ (upd H3 s.heap.objs.size (knO X.prog X.w s.heap.objs.size [(nkey b, q)])) { s3 with heap := h', toks := tk } :=
    d_write I3 (by rw [hd2]; exact True.intro) hs (let ⟨o, _, _, h, _⟩ := hx'; ⟨o, h⟩) (kn_ok hd hx')
  exact ⟨.ref s.heap.objs.size, _, I', rfl, hq _ ⟨[(nkey b, q)], upd_same, .cons (Dat.besideX hd2 db) fb .nil⟩⟩
end
end K74

set_option Elab.async false
set_option linter.all false
set_option maxRecDepth 100000
set_option maxHeartbeats 4000000
/-! K74.KB1: next_steps; defs with defaults. -/
namespace K74
open PySem PySem.Spec PyProof.Rows L2

theorem any_nat {ks : List Nat} {k : Nat} : ((ks.map dNat).any fun z => eqD z (dNat k)) = decide (k ∈ ks) := by
  induction ks with
  | nil => simp
  | cons x r ih =>
    rw [List.map_cons, List.any_cons, ih]
    have e : eqD (dNat x) (dNat k) = decide (x = k) := by
      show decide ((x : Int) = (k : Int)) = _
      exact decide_eq_decide.mpr Int.ofNat_inj
    rw [e]
    by_cases h : x = k
    · subst h; simp
    · have h' : ¬ k = x := fun z => h z.symm
      simp [h, h']
theorem fines_nat : ∀ {ks : List Nat}, fines (ks.map dNat) = true
  | [] => rfl
  | _ :: r => by
    show (_ && fines (r.map dNat)) = true
    rw [fines_nat]
    rfl
section
variable {X : Cx} {B : Hp} {k : Nat} {ks : List Nat} {n : Nat}
theorem od_inN (o : Ok X k) : OpD X (compareOp .In) B (dNat n) (.lst (ks.map dNat)) (.bl (decide (n ∈ ks))) := by
  have h := od_inD (B := B) o (da := dNat n) (db := .lst (ks.map dNat)) (xs := ks.map dNat) rfl (fun z hz => by obtain ⟨y, _, rfl⟩ := List.mem_map.mp hz; exact Nat.zero_le _) (fun z hz => by obtain ⟨y, _, rfl⟩ := List.mem_map.mp hz; rfl) fines_nat rfl
  rw [any_nat] at h
  exact h
theorem od_notInN (o : Ok X k) : OpD X (compareOp .NotIn) B (dNat n) (.lst (ks.map dNat)) (.bl (!decide (n ∈ ks))) := by
  have h := od_notInD (B := B) o (da := dNat n) (db := .lst (ks.map dNat)) (xs := ks.map dNat) rfl (fun z hz => by obtain ⟨y, _, rfl⟩ := List.mem_map.mp hz; exact Nat.zero_le _) (fun z hz => by obtain ⟨y, _, rfl⟩ := List.mem_map.mp hz; rfl) fines_nat rfl
  rw [any_nat] at h
  exact h
end
section
variable {P : Program} {w : World} {K : PySem.W.Frag} {mg : Str → Option Value} {base : Heap} {f : Addr} {fd : FuncData} {k : Nat} {CP CG : Addr}
abbrev s_next_steps : Stmt := top 39
theorem sc_next_steps : FnScope ["process", "doors", "opened", "closes", "number"] ["process", "doors"] (defScope s_next_steps) := ⟨rfl, rfl, rfl, by decide +kernel, rfl, by decide +kernel, by decide +kernel⟩
def RNext (CP : Addr) : Hp → List D → List D → Prop := fun H ds es => ∃ (a : Addr) (r : PR) (st : PSt) (hs : List S) (P : ProgD), PAt CP H a r st hs ∧ ds = [.raw (.ref a), .lst ((List.range P.doors.length).map dNat)] ∧ es = (stepsFor P st).map encStep ∧ P.doors.length ≤ 64
theorem ok_next_steps (F : Fun K "next_steps" "next_steps" s_next_steps f fd) (C : Gk mg K) (m_opened : Met P w K mg base 1 CP "opened" (spP K (ROpened CP))) : FnOk P w K mg base CX0 2 f fd ["process", "doors"] (spN K (RNext CP)) := by
  refine fn_WN F sc_next_steps (fun H ds d h => ?_) (fun cdv A outer s H E vs ds es Q oo h hvs hQ => ?_)
  · obtain ⟨a, r, st, hs, G, _, rfl, _⟩ := h
    rfl
  · obtain ⟨a, r, st, hs, G, p, rfl, rfl, hn⟩ := h
    obtain ⟨v2, rfl, d2⟩ : ∃ v2, vs = [.ref a, v2] ∧ Dat K H v2 (.lst ((List.range G.doors.length).map dNat)) := by
      cases hvs with | cons h1 r => cases r with | cons h2 r => cases r; cases h1; exact ⟨_, rfl, h2⟩
    refine ws_set 2 oo (we_ee (ee_meth0 m_opened oo (by decide) (ee_var 0 rfl) (p.at rfl) (fun _ s => ⟨a, r, st, hs, p.mono s, rfl, rfl⟩)) (ρ := [some (.raw (.ref a)), some (.lst ((List.range G.doors.length).map dNat)), none, none, none]) (.cons (.raw _) (.cons d2 (.skip (.skip (.skip .nil))))) fun vo H1 s1 dvo => ?_)
    have lc : ∀ {p0 : Nat → Bool}, ((List.range G.doors.length).filter p0).length ≤ 64 := fun {p0} => by
      have := List.length_filter_le p0 (List.range G.doors.length)
      rw [List.length_range] at this
      omega
    refine ws_setLc 3 oo (lc_mk (xs := List.range G.doors.length) (enc := dNat) (p := fun j => decide (j ∈ st.opened)) (f := fun j => encStep (.cl j)) (ρ := [some (.raw (.ref a)), some (.lst ((List.range G.doors.length).map dNat)), some (.lst (st.opened.map dNat)), none, none]) (ρ' := fun j => [some (.raw (.ref a)), some (.lst ((List.range G.doors.length).map dNat)), some (.lst (st.opened.map dNat)), none, some (dNat j)]) [("number", 4)] (blkOk_by rfl) (si_lst (ee_var 1 rfl)) (fun _ _ _ _ _ => pg_name (i := 4) oo.nd rfl (Or.inl rfl)) (fun x hx => tg_name)
      (fun _ _ _ _ _ x hx => ets_one (et_cmp (od_inN oo.blk (ks := st.opened)) (ee_var 4 rfl) (ee_var 2 rfl))) (fun _ _ _ _ _ x hx hp => ee_tup (ea_cons (ee_gc C.CLOSE) (ea_cons (ee_var 4 rfl) ea_nil))) (own1 rfl) (fun x hx => rfl) (by rw [List.length_range]; exact sz64 hn)) (.cons (.raw _) (.cons (d2.mono s1) (.cons dvo (.skip (.skip .nil))))) fun lc1 wc H2 fc s2 h2 dc => ?_
    refine ws_ret (we_cat (we_var 3 rfl (we_en (en_lc oo (lc_mk (xs := List.range G.doors.length) (enc := dNat) (p := fun j => !decide (j ∈ st.opened)) (f := fun j => encStep (.op j)) (ρ := [some (.raw (.ref a)), some (.lst ((List.range G.doors.length).map dNat)), some (.lst (st.opened.map dNat)), none, none]) (ρ' := fun j => [some (.raw (.ref a)), some (.lst ((List.range G.doors.length).map dNat)), some (.lst (st.opened.map dNat)), none, some (dNat j)]) [("number", 4)] (blkOk_by rfl) (si_lst (ee_var 1 rfl)) (fun _ _ _ _ _ => pg_name (i := 4) oo.nd rfl (Or.inl rfl)) (fun x hx => tg_name)
      (fun _ _ _ _ _ x hx => ets_one (et_cmp (od_notInN oo.blk (ks := st.opened)) (ee_var 4 rfl) (ee_var 2 rfl))) (fun _ _ _ _ _ x hx hp => ee_tup (ea_cons (ee_gc C.OPEN) (ea_cons (ee_var 4 rfl) ea_nil))) (own1 rfl) (fun x hx => rfl) (by rw [List.length_range]; exact sz64 hn))) (.cons (.raw _) (.cons ((d2.mono s1).mono s2) (.cons (dvo.mono s2) (.skip (.skip .nil))))) fun lc2 wc2 H3 fc2 s3 h3 dc3 => ?_)))
    refine ⟨lc1, lc2, wc, wc2, rfl, rfl, s3 _ _ h2, h3, ?_, fun q hq => ?_⟩
    · rw [dc.length, dc3.length, List.length_map, List.length_map]
      exact Nat.le_trans (Nat.add_le_add lc lc) (by decide)
    · refine hQ q _ _ ((((s1.trans s2).trans s3)).free hq) (((s1.trans s2).trans s3).trans (Same.new hq)) upd_same ?_
      have e : (stepsFor G st).map encStep = ((List.range G.doors.length).filter fun j => decide (j ∈ st.opened)).map (fun j => encStep (.cl j)) ++ ((List.range G.doors.length).filter fun j => !decide (j ∈ st.opened)).map (fun j => encStep (.op j)) := by
        unfold stepsFor
        rw [List.map_append, List.map_map, List.map_map]
        rfl
      rw [e]
      exact ((dc.mono s3).append dc3).mono (Same.new hq)

/-! ### defs with defaults -/
structure CalD (P : Program) (w : World) (K : PySem.W.Frag) (mg : Str → Option Value) (base : Heap) (k : Nat) (x : S) (dvs : List V) (sp : Sp) : Prop where
  ex : ∃ (f : Addr) (fd : FuncData) (ps : List S) (ds : List Value), FnOk P w K mg base CX0 k f fd ps sp ∧ mg x = some (.ref f) ∧ PySem.W.keepIn K (.ref f) = true ∧ Binds K fd ps ds ∧ Vals dvs ds
theorem fn_WD {x qual : S} {st : Stmt} {dvs : List V} {N ps : List S} {R : List V → Hp → VK → Prop} (F : FunD K x qual (defArgs st) (defBody st) (defScope st) dvs [] f fd) (S : FnScope N ps (defScope st)) (hlen : ∀ vs H Q, R vs H Q → vs.length = ps.length)
    (hbody : ∀ (cdv : Value) (A : Around) (outer : List Env) (s : Shared) (H : Hp) (E : XK) (vs : List V) (Q : VK), Ok (cxOf CX0 P w K mg base N qual (defScope st) f cdv A outer s H E).nox k → R vs H Q →
      WS (cxOf CX0 P w K mg base N qual (defScope st) f cdv A outer s H E).nox (defBody st) { nx := fun _ H' => Q .non H', rt := Q } (L2.start N vs) H) : FnOk P w K mg base CX0 (k + 1) f fd ps (spG R) :=
  F.ok (CX := CX0) S (fun vs H Q E h => hlen vs H Q h) fun cdv A outer s H vs Q E hr h => ⟨_, (pss_w : PSs _ _ (WS (cxOf CX0 P w K mg base N qual (defScope st) f cdv A outer s H E).nox (defBody st))).nox, hbody cdv A outer s H E vs Q (ok_cx S hr) h⟩
end
section
variable {X : Cx} {e : Expr} {es : List Expr} {σ : L2.St} {H : Hp} {Q : VK} {pos p : Pos} {k j : Nat} {x : S} {dvs : List V}
theorem we_calD {R : List V → Hp → VK → Prop} (c : CalD X.prog X.w X.K X.mg X.base k x dvs (spG R)) (o : Ok X j) (hk : k ≤ j) (ha : WA X (e :: es) σ H fun vs H1 => R (vs ++ dvs) H1 Q) (hg : Gl X x := by rfl) (hdb : (x == ("__debug__" : Str)) = false := by decide)
    (he : starEach (e :: es) X.env = (false, eval e X.env) :: starEach es X.env := by rfl) (hpl : (backTo pos (starEach es X.env)).any (·.1) = false := by rfl) : WE X (.Call (.Name x p) (e :: es) [] pos) σ H Q := by
  obtain ⟨f, fd, ps, ds, F, hm, kp, b, hd⟩ := c.ex
  exact we_of (pe_call F (o.room.mono hk) hg hm kp b hd pass0 pa_w hdb he hpl) ha
end
end K74

set_option Elab.async false
set_option linter.all false
set_option maxRecDepth 100000
set_option maxHeartbeats 4000000
/-! K74.KB2: what the walk holds. -/
namespace K74
open PySem PySem.Spec PyProof.Rows L2

def encB (b : BaseD) : D := .tup [.tup (b.1.map D.int), .tup (b.2.1.map dNat), .tup (b.2.2.1.map D.str), .tup (b.2.2.2.map D.str)]
theorem encBase_eq (st : PSt) : encBase st = encB (baseOf st) := rfl
theorem map_inj' {α β : Type} {g : α → β} (hg : ∀ x y, g x = g y → x = y) : ∀ {xs ys : List α}, xs.map g = ys.map g → xs = ys
  | [], [], _ => rfl
  | [], _ :: _, h => by cases h
  | _ :: _, [], h => by cases h
  | x :: xs, y :: ys, h => by
    rw [List.map_cons, List.map_cons] at h
    injection h with h1 h2
    rw [hg _ _ h1, map_inj' hg h2]
theorem nk_tup {α : Type} {g : α → D} (hg : ∀ x y, nkey (g x) = nkey (g y) → x = y) {xs ys : List α} (h : nkey (.tup (xs.map g)) = nkey (.tup (ys.map g))) : xs = ys := by
  have h1 : NestedKey.tup (nkeys (xs.map g)) = NestedKey.tup (nkeys (ys.map g)) := h
  injection h1 with h2
  rw [nkeys_map, nkeys_map, List.map_map, List.map_map] at h2
  exact map_inj' hg h2
theorem nkB_inj {a b : BaseD} (h : nkey (encB a) = nkey (encB b)) : a = b := by
  have h1 : NestedKey.tup [nkey _, nkey _, nkey _, nkey _] = NestedKey.tup [nkey _, nkey _, nkey _, nkey _] := h
  injection h1 with h2
  injection h2 with e1 h3
  injection h3 with e2 h4
  injection h4 with e3 h5
  injection h5 with e4 _
  have hs : ∀ x y : S, nkey (.str x) = nkey (.str y) → x = y := fun x y h => by
    have h' : NestedKey.text x = NestedKey.text y := h
    injection h'
  obtain ⟨a1, a2, a3, a4⟩ := a
  obtain ⟨b1, b2, b3, b4⟩ := b
  have q1 := nk_tup (g := D.int) (fun x y h => by
    have h' : NestedKey.num x = NestedKey.num y := h
    injection h') e1
  have q2 := nk_tup (g := dNat) (fun x y h => by
    have h' : NestedKey.num (x : Int) = NestedKey.num (y : Int) := h
    injection h' with h''
    exact Int.ofNat_inj.mp h'') e2
  have q3 := nk_tup hs e3
  have q4 := nk_tup hs e4
  simp only at q1 q2 q3 q4
  rw [q1, q2, q3, q4]
theorem nkB_mem {b : BaseD} {bs : List BaseD} : nkey (encB b) ∈ (bs.map encB).map nkey ↔ b ∈ bs := by
  rw [List.map_map]
  constructor
  · intro h
    obtain ⟨c, hc, e⟩ := List.mem_map.mp h
    rw [← nkB_inj e]
    exact hc
  · exact fun h => List.mem_map.mpr ⟨b, h, rfl⟩
theorem flat_base {P : ProgD} (W : WK P) {st : PSt} (I : PInv P st) : (encBase st).flatT 8 = true := by
  have h1 : st.counts.length ≤ 64 := by
    rw [I.clen]
    exact Nat.le_trans W.doors (by decide)
  have h2 : st.opened.length ≤ 64 := Nat.le_trans (I.olen W) (by decide)
  have h3 : st.pub.length ≤ 64 := Nat.le_trans (names_len4 W I.pnd I.psub) (by decide)
  have h4 : (sortS st.deep).length ≤ 64 := by
    rw [(sortS_perm st.deep).length_eq]
    exact Nat.le_trans (names_len4 W I.dnd fun x hx => hereM_names W.wf x (I.dsub x hx)) (by decide)
  have a1 : (D.tup (st.counts.map D.int)).flatT 7 = true := flat_tups h1 fun _ _ => rfl
  have a2 : (D.tup (st.opened.map dNat)).flatT 7 = true := flat_tups h2 fun _ _ => rfl
  have a3 : (D.tup (st.pub.map D.str)).flatT 7 = true := flat_strs' h3
  have a4 : (D.tup ((sortS st.deep).map D.str)).flatT 7 = true := flat_strs' h4
  show ([_, _, _, _].all (D.flatT 7) && _) = true
  simp only [List.all_cons, List.all_nil, a1, a2, a3, a4]
  rfl
theorem rgV_nat (n : Nat) : rgV 0 (n : Int) = (List.range n).map vNat := by
  unfold rgV
  rw [Int.sub_zero, Int.toNat_natCast]
  exact List.map_congr_left fun i _ => by
    show V.int (0 + (i : Int)) = V.int (i : Int)
    rw [Int.zero_add]
/-- an item of a layer -/
def ItAt (K : PySem.W.Frag) (CP : Addr) (P : ProgD) (H : Hp) (G : Addr) (vp vf vr : V) (v : V) (it : ItemD) : Prop :=
  ∃ q a r u, v = .ref q ∧ SqT K H q [.ref a, u] ∧ Dat K H u (.tup (it.steps.map encStep)) ∧ PAt CP H a r it.st (hereM P it.st.opened) ∧ r.G = G ∧ r.vp = vp ∧ r.vf = vf ∧ r.vr = vr
theorem ItAt.mono {K : PySem.W.Frag} {CP : Addr} {P : ProgD} {H H' : Hp} {G : Addr} {vp vf vr : V} {v : V} {it : ItemD} (s : Same H H') (h : ItAt K CP P H G vp vf vr v it) : ItAt K CP P H' G vp vf vr v it :=
  let ⟨q, a, r, u, h1, h2, h3, h4, h5⟩ := h
  ⟨q, a, r, u, h1, Same.seqT s h2, h3.mono s, h4.mono s, h5⟩
inductive ItsAt (K : PySem.W.Frag) (CP : Addr) (P : ProgD) (H : Hp) (G : Addr) (vp vf vr : V) : List V → List ItemD → Prop
  | nil : ItsAt K CP P H G vp vf vr [] []
  | cons {v : V} {it : ItemD} {vs : List V} {its : List ItemD} : ItAt K CP P H G vp vf vr v it → ItsAt K CP P H G vp vf vr vs its → ItsAt K CP P H G vp vf vr (v :: vs) (it :: its)
section
variable {K : PySem.W.Frag} {CP : Addr} {P : ProgD} {H H' : Hp} {G : Addr} {vp vf vr : V}
theorem ItsAt.mono (s : Same H H') : ∀ {vs : List V} {its : List ItemD}, ItsAt K CP P H G vp vf vr vs its → ItsAt K CP P H' G vp vf vr vs its
  | _, _, .nil => .nil
  | _, _, .cons h t => .cons (h.mono s) (ItsAt.mono s t)
theorem ItsAt.snoc {v : V} {it : ItemD} (h : ItAt K CP P H G vp vf vr v it) : ∀ {vs : List V} {its : List ItemD}, ItsAt K CP P H G vp vf vr vs its → ItsAt K CP P H G vp vf vr (vs ++ [v]) (its ++ [it])
  | _, _, .nil => .cons h .nil
  | _, _, .cons h' t => .cons h' (ItsAt.snoc h t)
theorem ItsAt.length : ∀ {vs : List V} {its : List ItemD}, ItsAt K CP P H G vp vf vr vs its → vs.length = its.length
  | _, _, .nil => rfl
  | _, _, .cons _ t => by rw [List.length_cons, List.length_cons, ItsAt.length t]
theorem ItsAt.get : ∀ {vs : List V} {its : List ItemD} {i : Nat} {v : V}, ItsAt K CP P H G vp vf vr vs its → vs[i]? = some v → ∃ it, its[i]? = some it ∧ ItAt K CP P H G vp vf vr v it
  | _, _, _, _, .nil, e => by simp at e
  | _, _, 0, _, .cons h _, e => by simp at e; subst e; exact ⟨_, rfl, h⟩
  | _, _, i + 1, _, .cons _ t, e => by
    obtain ⟨it, h1, h2⟩ := ItsAt.get (i := i) t (by simpa using e)
    exact ⟨it, by simpa using h1, h2⟩
end
theorem KnAt.list {P : Program} {w : World} {K : PySem.W.Frag} {H : Hp} {p d : Addr} {o : HO} {ys : List V} {bs : List D} (hp : H p = some (.lst ys)) (h : KnAt P w K H d bs) : KnAt P w K (upd H p o) d bs := by
  obtain ⟨ks, h1, h2⟩ := h
  have ne : d ≠ p := fun e => by
    subst e
    rw [h1] at hp
    cases hp
  refine ⟨ks, by rw [upd_ne ne]; exact h1, ?_⟩
  have kT := upd_keepT (K := K) (o := o) hp
  clear h1
  induction h2 with
  | nil => exact .nil
  | cons h f _ ih => exact .cons (Dat.keepT kT h (flatT_imm 8 _ f)) f ih
theorem raws_dat {K : PySem.W.Frag} {H : Hp} : ∀ {vs : List V}, DatAll K H vs (vs.map D.raw)
  | [] => .nil
  | v :: _ => .cons (.raw v) raws_dat
theorem hideL_sub {H : Hp} {L M : List Addr} (h : ∀ x ∈ M, x ∈ L) : Same (hideL H L) (hideL H M) := fun b o e => by
  have hb : b ∉ L := fun hm => by rw [hideL_in hm] at e; cases e
  rw [hideL_at hb] at e
  rw [hideL_at (fun hm => hb (h b hm))]
  exact e
theorem not_hid {H : Hp} {L : List Addr} {b : Addr} {o : HO} (h : hideL H L b = some o) : b ∉ L := fun hm => by rw [hideL_in hm] at h; cases h
end K74

set_option Elab.async false
set_option linter.all false
set_option maxRecDepth 100000
set_option maxHeartbeats 4000000
/-! K74.KB3: walk. -/
namespace K74
open PySem PySem.Spec PyProof.Rows L2

section
variable {X : Cx} {c : Expr} {body rest orelse : List Stmt} {σ : L2.St} {H : Hp} {pos : Pos} {Dn : Ends}
theorem ws_whileW (hp : PassesOwn (model X.prog X.w) X.A X.env X.xe) (W : Nat → L2.St → Hp → Prop) (m0 : Nat) (h0 : W m0 σ H)
    (hs : ∀ m σ H, W m σ H → WT X c σ H fun z H1 => if z = true then WS X body { Dn with nx := fun σ' H' => ∃ m', m' < m ∧ W m' σ' H', ct := fun σ' H' => ∃ m', m' < m ∧ W m' σ' H', bk := WS X rest Dn } σ H1 else WS X rest Dn σ H1) : WS X (.While c body [] pos :: rest) Dn σ H :=
  ws_cons (ps_while hp pt_w pss_w) ⟨W, ⟨m0, h0⟩, fun m σ H w => (hs m σ H w).mono fun z H1 q => by
    cases z with
    | true => exact ⟨_, fun σ' H' h => h, q⟩
    | false => exact q⟩
end
theorem PAt.hid {C : Addr} {H : Hp} {a : Addr} {r : PR} {st : PSt} {hs : List S} {M : List Addr} (p : PAt C H a r st hs) (ha : a ∉ M) (ho : ∀ z ∈ ownP r, z ∉ M) (hs' : r.sA ∉ M) (hh : r.hA ∉ M) : PAt C (hideL H M) a r st hs :=
  ⟨by rw [hideL_at ha]; exact p.ins, by rw [hideL_at (ho _ (by simp [ownP]))]; exact p.counts, by rw [hideL_at (ho _ (by simp [ownP]))]; exact p.opened, by rw [hideL_at (ho _ (by simp [ownP]))]; exact p.pub, by rw [hideL_at (ho _ (by simp [ownP]))]; exact p.deep, by rw [hideL_at hs']; exact p.slots, by rw [hideL_at hh]; exact p.here⟩
section
variable {P : Program} {w : World} {K : PySem.W.Frag} {mg : Str → Option Value} {base : Heap} {f : Addr} {fd : FuncData} {k : Nat} {CP CG : Addr}
abbrev s_walk : Stmt := top 40
theorem sc_walk : FnScope ["program", "doors", "start", "some", "known", "found", "layer", "later", "process", "steps", "step", "mate"] ["program", "doors"] (defScope s_walk) := ⟨rfl, rfl, rfl, by decide +kernel, rfl, by decide +kernel, by decide +kernel⟩
def QWalk (K : PySem.W.Frag) (CP CG : Addr) : List V → Hp → VK → Prop := fun vs H Q => ∃ (v : V) (P : ProgD), vs = [v, .non] ∧ Dat K H v (encProg P) ∧ WK P ∧
  ∀ l ws G vp vf vr H', Same H H' → H l = none → H' l = some (.lst ws) → ItsAt K CP P H' G vp vf vr ws (walkM P) → GAt K CG H' G vp vf vr P → Q (.ref l) H'
/-- between two layers -/
structure LoopI (P : Program) (w : World) (K : PySem.W.Frag) (CP : Addr) (G : ProgD) (B : Hp) (gA : Addr) (vp vf vr : V) (v0 : V) (a0 sL kD fL : Addr) (m : Nat) (σ : L2.St) (H : Hp) (known : List BaseD) (found layer : List ItemD) (lY : Addr) (wf wl : List V) (n : Nat) : Prop where
  sg : ∃ x7 x8 x9 x10 x11, σ = [some v0, some .non, some (.ref a0), some (.ref sL), some (.ref kD), some (.ref fL), some (.ref lY), x7, x8, x9, x10, x11]
  base : Same B (hideL H [kD, fL])
  kn : KnAt P w K H kD (known.map encB)
  fd : H fL = some (.lst wf)
  fds : ItsAt K CP G (hideL H [kD, fL]) gA vp vf vr wf found
  ly : hideL H [kD, fL] lY = some (.lst wl)
  lys : ItsAt K CP G (hideL H [kD, fL]) gA vp vf vr wl layer
  ki : KInv G known
  fi : ∀ it ∈ found, PInv G it.st
  li : ∀ it ∈ layer, PInv G it.st ∧ it.steps.length < known.length
  cnt : found.length + layer.length = known.length
  go : walkGo G (n + 1) known found layer = walkM G
  mn : m = 2 * (5698800 - known.length) + (if layer = [] then 0 else 1)
  le : m ≤ n
theorem ok_walk {kp kn : Nat} (F : FunD K "walk" "walk" (defArgs s_walk) (defBody s_walk) (defScope s_walk) [.non] [] f fd) (c : ClsP K CP) (T : Gb mg) (hk : kp + 1 ≤ k ∧ kn ≤ k ∧ 6 ≤ k) (c_Process : Mak P w K mg base kp "Process" CP (spG (QProcInit K CP CG))) (c_next_steps : Cal P w K mg base 2 "next_steps" (spN K (RNext CP)))
    (m_counts : Met P w K mg base 1 CP "counts" (spP K (RCounts CP))) (m_base : Met P w K mg base 2 CP "base" (spP K (RBase CP))) (m_twin : Met P w K mg base kn CP "twin" (spG (QTwin K CP CG))) (m_do : Met P w K mg base 4 CP "do" (spG (QDo K CP CG))) : FnOk P w K mg base CX0 (k + 1) f fd ["program", "doors"] (spG (QWalk K CP CG)) := by
  refine fn_WD F sc_walk (fun vs H Q h => ?_) (fun cdv A outer s H E vs Q oo h => ?_)
  · obtain ⟨v, G, rfl, _⟩ := h
    rfl
  · obtain ⟨v0, G, rfl, dv, W, hQ⟩ := h
    -- start
    refine ws_set 2 oo (we_mak c_Process oo hk.1 (wa_cons (we_var 0 rfl (wa_nil fun a0 dx0 ha0 hdx0 hne0 => ?_))))
    have s0 : Same H (hide (upd (upd H dx0 (.own a0)) a0 (.ins CP dx0 [])) a0) := fun x o e => by
      rw [hide_at (ne_of_none e ha0), upd_ne (ne_of_none e ha0), upd_ne (ne_of_none e hdx0)]
      exact e
    refine ⟨a0, dx0, v0, G, rfl, upd_same, W.wf, W.sz, W.pre, .inr ⟨dv.mono s0, fun r0 H1 N g1 => ⟨rfl, ?_⟩⟩⟩
    have s1 : Same H H1 := s0.trans N.same
    have p1 := N.at_
    have g1' : GAt K CG H1 r0.G r0.vp r0.vf r0.vr G := g1.mono (hide_same _ _)
    -- some
    refine ws_set 3 oo (we_of (pe_ifExp pt_w pe_w pe_w) (wt_et (et_cmp od_isN (ee_var 1 rfl) ee_non) (ρ := [none, some .non, some (.raw (.ref a0))]) (.skip (.cons .non (.cons (.raw _) .nil))) fun H2 s2 => iteT ?_))
    refine we_of (pe_listRg oo.calm rfl T.list (prg_1 rfl T.range pe_w)) (we_ee (ee_len T.len (ee_meth0 m_counts oo (by omega) (ee_var 2 rfl) ((p1.mono s2).at rfl) (fun _ s => ⟨a0, r0, _, _, (p1.mono s2).mono s, rfl, rfl⟩)) len_mapL) (ρ := [none, some .non, some (.raw (.ref a0))]) (.skip (.cons .non (.cons (.raw _) .nil))) fun u3 H3 s3 du3 => ?_)
    cases du3
    have hcl : (st0 G).counts.length = G.doors.length := by simp [st0]
    have hdl := W.doors
    refine ⟨((st0 G).counts.length : Nat), rfl, RgOk.of_le (Int.le_refl _) (by rw [hcl]; omega) (by decide) (by omega), fun sL hsL => ?_⟩
    rw [hcl, rgV_nat]
    have s4 : Same H3 (upd H3 sL (.lst ((List.range G.doors.length).map vNat))) := Same.new hsL
    generalize hH4 : upd H3 sL (.lst ((List.range G.doors.length).map vNat)) = H4 at s4 ⊢
    have hs4 : H4 sL = some (.lst ((List.range G.doors.length).map vNat)) := by rw [← hH4]; exact upd_same
    have s14 : Same H1 H4 := (s2.trans s3).trans s4
    have p4 := p1.mono s14
    have g4 := g1'.mono s14
    have I0 := PInv.st0 W
    -- known, found, layer
    refine ws_cons (ps_par3 oo.calm oo.nd (i := 4) (j := 5) (l := 6) rfl rfl rfl (by decide) (by decide) (by decide) rfl rfl rfl pa_w rfl) ?_
    refine wa_cons (we_of (pe_kn1 oo pe_w) fun kD hkD => ?_)
    have sk : Same H4 (upd H4 kD (knO P w kD [])) := Same.new hkD
    refine we_ee (ee_meth0 m_base oo (by omega) (ee_var 2 rfl) ((p4.mono sk).at rfl) (fun _ s => ⟨a0, r0, _, _, (p4.mono sk).mono s, rfl, rfl, by show ([] : List S).length < 64; decide⟩)) (ρ := [none, some .non, some (.raw (.ref a0))]) (.skip (.cons .non (.cons (.raw _) .nil))) fun ub H5 s5 dub => ?_
    obtain ⟨qb, rfl⟩ : ∃ q, ub = .ref q := by cases dub with | tup h t => exact ⟨_, rfl⟩
    refine ⟨qb, _, rfl, s5 _ _ upd_same, dub, flat_base W I0, fun ob hkn => ?_⟩
    have s45 : Same H4 (upd H5 kD ob) := hideOf (sk.trans s5) hkD
    generalize hH6 : upd H5 kD ob = H6 at hkn s45 ⊢
    refine wa_cons (we_of (pe_lst pa_nil) ⟨Nat.zero_le _, fun fL hfL => ?_⟩)
    have s67 : Same H6 (upd H6 fL (.lst [])) := Same.new hfL
    generalize hH7 : upd H6 fL (.lst []) = H7 at s67 ⊢
    have hf7 : H7 fL = some (.lst []) := by rw [← hH7]; exact upd_same
    refine wa_cons (we_of (pe_lst (pa_cons (pe_tup (pa_cons pe_w (pa_cons (pe_tup pa_nil) pa_nil))) pa_nil)) (we_var 2 rfl ⟨Nat.zero_le _, fun qe hqe => ⟨by show 2 ≤ sizeLine; decide, fun qi hqi => ⟨by show 1 ≤ sizeLine; decide, fun lY hlY => wa_nil ⟨_, _, _, rfl, ?_⟩⟩⟩⟩))
    have t1 : Same H7 (upd H7 qe (.tup [])) := Same.new hqe
    have t2 : Same (upd H7 qe (.tup [])) (upd (upd H7 qe (.tup [])) qi (.tup [.ref a0, .ref qe])) := Same.new hqi
    have t3 : Same (upd (upd H7 qe (.tup [])) qi (.tup [.ref a0, .ref qe])) (upd (upd (upd H7 qe (.tup [])) qi (.tup [.ref a0, .ref qe])) lY (.lst [.ref qi])) := Same.new hlY
    generalize hH8 : upd (upd (upd H7 qe (.tup [])) qi (.tup [.ref a0, .ref qe])) lY (.lst [.ref qi]) = H8 at t3 ⊢
    have hqe8 : H8 qe = some (.tup []) := t3 _ _ (t2 _ _ upd_same)
    have hqi8 : H8 qi = some (.tup [.ref a0, .ref qe]) := t3 _ _ upd_same
    have hlY8 : H8 lY = some (.lst [.ref qi]) := by rw [← hH8]; exact upd_same
    have s48 : Same H4 H8 := ((s45.trans s67).trans (t1.trans (t2.trans t3)))
    have s78 : Same H7 H8 := t1.trans (t2.trans t3)
    have hkD6 : ∃ o, H6 kD = some o := let ⟨ks, h, _⟩ := hkn; ⟨_, h⟩
    have bk4 : H4 kD = none := hkD
    have bf4 : H4 fL = none := s45.free hfL
    have bM : ∀ x ∈ [kD, fL], H4 x = none := fun x hx => by
      have : x = kD ∨ x = fL := by simpa using hx
      rcases this with rfl | rfl
      · exact bk4
      · exact bf4
    have nf : ∀ {x : Addr} {o : HO}, H7 x = none → H8 x = some o → x ∉ [kD, fL] := fun {x o} h1 h2 hm => by
      have : x = kD ∨ x = fL := by simpa using hm
      rcases this with rfl | rfl
      · obtain ⟨o', h⟩ := hkD6
        rw [s67 _ _ h] at h1
        cases h1
      · rw [hf7] at h1
        cases h1
    have nqe := nf hqe hqe8
    have nqi := nf (t1.free hqi) hqi8
    have nlY := nf ((t1.trans t2).free hlY) hlY8
    have base8 : Same H4 (hideL H8 [kD, fL]) := hideL_of s48 bM
    refine ws_whileW PassesOwn.never (fun m σ H' => ∃ known found layer lY wf wl n, LoopI P w K CP G H4 r0.G r0.vp r0.vf r0.vr v0 a0 sL kD fL m σ H' known found layer lY wf wl n) (2 * (5698800 - 1) + 1)
      ⟨[baseOf (st0 G)], [], [⟨st0 G, []⟩], lY, [], [.ref qi], fuelU, ⟨⟨_, _, _, _, _, rfl⟩, base8, (hkn.mono s67).mono s78, s78 _ _ hf7, .nil, by rw [hideL_at nlY]; exact hlY8,
        .cons ⟨qi, a0, r0, .ref qe, rfl, .inl (.inl (by rw [hideL_at nqi]; exact hqi8)), .tup (.inl (.inl (by rw [hideL_at nqe]; exact hqe8))) .nil, p4.mono base8, rfl, rfl, rfl, rfl⟩ .nil, ⟨by simp, fun b hb => ?_⟩, (fun _ h => by cases h), fun it hit => ?_, rfl, rfl, rfl, by decide⟩⟩ ?_
    · have : b = baseOf (st0 G) := by simpa using hb
      rw [this]
      exact I0.uni W
    · have : it = ⟨st0 G, []⟩ := by simpa using hit
      rw [this]
      exact ⟨I0, by show 0 < 1; decide⟩
    · rintro m σ H9 ⟨known, found, layer, lY, wf, wl, n, L⟩
      obtain ⟨x7, x8, x9, x10, x11, rfl⟩ := L.sg
      have hly9 := hideL_same _ _ L.ly
      have hll := L.lys.length
      refine wt_et (et_cmp od_gt (ee_len T.len (ee_var 6 rfl) (n := wl.length) (by simp [D.len])) ee_int) (ρ := [none, none, none, none, none, none, some (.lst (wl.map D.raw))]) (.skip (.skip (.skip (.skip (.skip (.skip (.cons (.lst hly9 raws_dat) .nil))))))) fun H10 s10 => ?_
      cases layer with
      | nil =>
        cases wl with
        | cons _ _ => cases hll
        | nil =>
          refine iteF (ws_ret (we_var 5 rfl ?_))
          have hgo : found = walkM G := L.go
          have sB10 : Same H4 (hideL H10 [kD, fL]) := L.base.trans (hideL_mono s10)
          refine hQ fL wf r0.G r0.vp r0.vf r0.vr H10 (((s1.trans s14).trans sB10).trans hideL_same) ((s1.trans s14).free bf4) (s10 _ _ L.fd) ?_ (g4.mono (sB10.trans hideL_same))
          rw [← hgo]
          exact (L.fds.mono (hideL_mono s10)).mono hideL_same
      | cons it0 lr =>
        cases wl with
        | nil => cases hll
        | cons w0 wr =>
          rw [decide_eq_true (show (0 : Int) < (((w0 :: wr).length : Nat) : Int) by simp only [List.length_cons]; omega)]
          refine iteT ?_
          have kn10 := L.kn.mono s10
          have base10 : Same H4 (hideL H10 [kD, fL]) := L.base.trans (hideL_mono s10)
          -- later = []
          refine ws_set 7 oo (we_of (pe_lst pa_nil) ⟨Nat.zero_le _, fun lL hlL => ?_⟩)
          have s11 : Same H10 (upd H10 lL (.lst [])) := Same.new hlL
          generalize hH11 : upd H10 lL (.lst []) = H11 at s11 ⊢
          have hl11 : H11 lL = some (.lst []) := by rw [← hH11]; exact upd_same
          have lk : lL ≠ kD := by
            obtain ⟨ks, h, _⟩ := kn10
            exact ne_of_none' h hlL
          have lf : lL ≠ fL := ne_of_none' (s10 _ _ L.fd) hlL
          have hid : Same (hideL H10 [kD, fL]) (hideL H11 [kD, fL, lL]) := fun x o e => by
            have h1 := not_hid e
            rw [hideL_at h1] at e
            have h2 : x ≠ lL := ne_of_none e hlL
            rw [hideL_at (fun hm => by
              have : x = kD ∨ x = fL ∨ x = lL := by simpa using hm
              rcases this with h | h | h
              · exact h1 (by rw [h]; simp)
              · exact h1 (by rw [h]; simp)
              · exact h2 h)]
            exact s11 _ _ e
          have hidL : Same (hideL H9 [kD, fL]) (hideL H11 [kD, fL, lL]) := (hideL_mono s10).trans hid
          let M : List Addr := [kD, fL, lL]
          have bM3 : ∀ x ∈ M, H4 x = none := fun x hx => by
            have : x = kD ∨ x = fL ∨ x = lL := by simpa [M] using hx
            rcases this with rfl | rfl | rfl
            · exact bk4
            · exact bf4
            · exact (base10.trans hideL_same).free hlL
          let acc : Nat → List BaseD × List ItemD := fun i => layerM G ((it0 :: lr).take i) (known, [])
          have A : ∀ i, AInv G known.length (acc i) := fun i => AInv.layer W _ (fun it h => L.li it (List.mem_of_mem_take h)) ⟨L.ki, (fun _ h => by cases h), by simp, (fun _ h => by cases h)⟩
          let J : Nat → L2.St → Hp → Prop := fun i σ H' => ∃ (x8 x9 x10 x11 : Option V) (wf' wt : List V), σ = [some v0, some .non, some (.ref a0), some (.ref sL), some (.ref kD), some (.ref fL), some (.ref lY), some (.ref lL), x8, x9, x10, x11] ∧
            Same (hideL H11 M) (hideL H' M) ∧ KnAt P w K H' kD ((acc i).1.map encB) ∧ H' fL = some (.lst wf') ∧ ItsAt K CP G (hideL H' M) r0.G r0.vp r0.vf r0.vr wf' (found ++ (it0 :: lr).take i) ∧ H' lL = some (.lst wt) ∧ ItsAt K CP G (hideL H' M) r0.G r0.vp r0.vf r0.vr wt (acc i).2
          refine ws_forL oo PassesOwn.never (we_var 6 rfl ⟨lY, w0 :: wr, J, rfl, ?_, ?_, ?_, ?_⟩)
          · exact ⟨x8, x9, x10, x11, wf, [], rfl, Same.refl _, kn10.mono s11, s11 _ _ (s10 _ _ L.fd), by rw [List.take_zero, List.append_nil]; exact L.fds.mono hidL, hl11, .nil⟩
          · rintro i σ H' _ ⟨y8, y9, y10, y11, wf', wt, rfl, sH, _⟩
            exact SqL.of (hideL_same _ _ (sH _ _ (hidL _ _ L.ly)))
          · rintro i x σ H12 hx ⟨y8, y9, y10, y11, wf', wt, rfl, sH, hkn12, hf12, hfs12, hl12, hls12⟩
            have hid12 := hidL.trans sH
            obtain ⟨it, hit, q, a, r, u, rfl, hq, hu, hp, eG, ep, ef, er⟩ := (L.lys.mono hid12).get hx
            have hiti : it ∈ it0 :: lr := List.mem_of_getElem? hit
            obtain ⟨hI, hIs⟩ := L.li it hiti
            have hil : i < (it0 :: lr).length := (List.getElem?_eq_some_iff.mp hit).1
            have base12 : Same H4 (hideL H12 M) := base10.trans (hid.trans sH)
            refine wg_two 8 9 oo (Same.seqT hideL_same hq) ?_
            -- found.append((process, steps))
            refine ws_append (we_var 5 rfl ⟨fL, rfl, ⟨_, hf12⟩, we_of (pe_tup (pa_cons pe_w (pa_cons pe_w pa_nil))) (we_var 8 rfl (we_var 9 rfl ⟨by show 2 ≤ sizeLine; decide, fun q2 hq2 => ⟨wf', by rw [upd_ne (ne_of_none hf12 hq2)]; exact hf12, ?_, ?_⟩⟩))⟩)
            · rw [hfs12.length, List.length_append, List.length_take]
              have h1 := L.cnt
              have h2 := L.ki.len W
              exact Nat.lt_of_le_of_lt (by omega : _ ≤ 5698800) (by decide)
            have sq : Same H12 (upd H12 q2 (.tup [.ref a, u])) := Same.new hq2
            have hq2M : q2 ∉ M := fun hm => by
              have : q2 = kD ∨ q2 = fL ∨ q2 = lL := by simpa [M] using hm
              rcases this with rfl | rfl | rfl
              · obtain ⟨ks, h, _⟩ := hkn12
                rw [h] at hq2
                cases hq2
              · rw [hf12] at hq2
                cases hq2
              · rw [hl12] at hq2
                cases hq2
            have e13 : hideL (upd (upd H12 q2 (.tup [.ref a, u])) fL (.lst (wf' ++ [.ref q2]))) M = hideL (upd H12 q2 (.tup [.ref a, u])) M := hideL_upd (by simp [M])
            have kn13 : KnAt P w K (upd (upd H12 q2 (.tup [.ref a, u])) fL (.lst (wf' ++ [.ref q2]))) kD ((acc i).1.map encB) := (hkn12.mono sq).list (sq _ _ hf12)
            have hf13 : upd (upd H12 q2 (.tup [.ref a, u])) fL (.lst (wf' ++ [.ref q2])) fL = some (.lst (wf' ++ [.ref q2])) := upd_same
            have hl13 : upd (upd H12 q2 (.tup [.ref a, u])) fL (.lst (wf' ++ [.ref q2])) lL = some (.lst wt) := by rw [upd_ne lf]; exact sq _ _ hl12
            generalize hH13 : upd (upd H12 q2 (.tup [.ref a, u])) fL (.lst (wf' ++ [.ref q2])) = H13 at e13 kn13 hf13 hl13 ⊢
            have hid13 : Same (hideL H12 M) (hideL H13 M) := by rw [e13]; exact hideL_mono sq
            have q13 : hideL H13 M q2 = some (.tup [.ref a, u]) := by rw [e13, hideL_at hq2M]; exact upd_same
            have p13 := hp.mono hid13
            have u13 := hu.mono hid13
            have base13 := base12.trans hid13
            have g13 : GAt K CG (hideL H13 M) r.G r.vp r.vf r.vr G := by rw [eG, ep, ef, er]; exact g4.mono base13
            have fs13 : ItsAt K CP G (hideL H13 M) r0.G r0.vp r0.vf r0.vr (wf' ++ [.ref q2]) (found ++ (it0 :: lr).take (i + 1)) := by
              rw [take_len hit, ← List.append_assoc]
              exact (hfs12.mono hid13).snoc ⟨q2, a, r, u, rfl, .inl (.inl q13), u13, p13, eG, ep, ef, er⟩
            have ls13 := hls12.mono hid13
            have hsL13 : H13 sL = some (.lst ((List.range G.doors.length).map vNat)) := hideL_same _ _ (base13 _ _ hs4)
            -- the steps
            refine ws_forL oo PassesOwn.never (we_en (en_call c_next_steps oo (by omega) (ea_cons (ee_var 8 rfl) (ea_cons (ee_var 3 rfl) ea_nil)) (fun _ s => ⟨a, r, it.st, _, G, (p13.mono hideL_same).mono s, rfl, rfl, by omega⟩)) (ρ := [none, none, none, some (.lst ((List.range G.doors.length).map dNat)), none, none, none, none, some (.raw (.ref a))]) (.skip (.skip (.skip (.cons (.lst hsL13 nats_dat) (.skip (.skip (.skip (.skip (.cons (.raw _) .nil))))))))) fun lS wS H14 hlS s14' h14 hd14 => ?_)
            have hlSM : lS ∉ M := fun hm => by
              have : lS = kD ∨ lS = fL ∨ lS = lL := by simpa [M] using hm
              rcases this with rfl | rfl | rfl
              · obtain ⟨ks, h, _⟩ := kn13
                rw [h] at hlS
                cases hlS
              · rw [hf13] at hlS
                cases hlS
              · rw [hl13] at hlS
                cases hlS
            have hid14 : Same (hideL H13 M) (hideL H14 M) := hideL_mono s14'
            have stepsOk : ∀ x ∈ stepsFor G it.st, x ∈ stepsFor G it.st := fun _ h => h
            let acc2 : Nat → List BaseD × List ItemD := fun j => ((stepsFor G it.st).take j).foldl (inner1 G it) (acc i)
            have A2 : ∀ j, AInv G known.length (acc2 j) := fun j => AInv.fold W hI hIs _ (fun x h => List.mem_of_mem_take h) (A i)
            let J2 : Nat → L2.St → Hp → Prop := fun j σ H' => ∃ (x10 x11 : Option V) (wt : List V), σ = [some v0, some .non, some (.ref a0), some (.ref sL), some (.ref kD), some (.ref fL), some (.ref lY), some (.ref lL), some (.ref a), some u, x10, x11] ∧
              Same (hideL H14 M) (hideL H' M) ∧ KnAt P w K H' kD ((acc2 j).1.map encB) ∧ H' fL = some (.lst (wf' ++ [.ref q2])) ∧ H' lL = some (.lst wt) ∧ ItsAt K CP G (hideL H' M) r0.G r0.vp r0.vf r0.vr wt (acc2 j).2
            refine ⟨lS, wS, J2, rfl, ⟨y10, y11, wt, rfl, Same.refl _, kn13.mono s14', s14' _ _ hf13, s14' _ _ hl13, ls13.mono hid14⟩, ?_, ?_, ?_⟩
            · rintro j σ H' _ ⟨z10, z11, wt2, rfl, sH2, _⟩
              exact SqL.of (hideL_same _ _ (sH2 _ _ (by rw [hideL_at hlSM]; exact h14)))
            · rintro j y σ H15 hy ⟨z10, z11, wt2, rfl, sH2, hkn15, hf15, hl15, hls15⟩
              have hd14' : DatAll K (hideL H14 M) wS ((stepsFor G it.st).map encStep) := by
                have kT : ∀ b xs, SqT K H14 b xs → SqT K (hideL H14 M) b xs := fun b xs h => by
                  rcases h with h | h
                  · have ne : b ∉ M := fun hm => by
                      have : b = kD ∨ b = fL ∨ b = lL := by simpa [M] using hm
                      rcases this with rfl | rfl | rfl
                      · obtain ⟨ks, hk, _⟩ := kn13.mono s14'
                        rcases h with h | ⟨_, h⟩ <;> (rw [hk] at h; cases h)
                      · have hk := s14' _ _ hf13
                        rcases h with h | ⟨_, h⟩ <;> (rw [hk] at h; cases h)
                      · have hk := s14' _ _ hl13
                        rcases h with h | ⟨_, h⟩ <;> (rw [hk] at h; cases h)
                    rcases h with h | ⟨ob, h⟩
                    · exact .inl (.inl (by rw [hideL_at ne]; exact h))
                    · exact .inl (.inr ⟨ob, by rw [hideL_at ne]; exact h⟩)
                  · exact .inr h
                exact DatAll.keepT kT hd14 (imms_map fun x _ => by cases x <;> rfl)
              obtain ⟨d, hd, hyd⟩ := (hd14'.mono sH2).getV hy
              obtain ⟨x, hx', rfl⟩ := get_map_some hd
              have hxs : x ∈ stepsFor G it.st := List.mem_of_getElem? hx'
              obtain ⟨hI', hsok⟩ := hI.step W hxs
              have hid15 := (hid14.trans sH2)
              have p15 := p13.mono hid15
              have u15 := u13.mono hid15
              have base15 := base13.trans hid15
              have g15 := g13.mono hid15
              refine wg_name 10 oo ?_
              -- mate = process.twin()
              refine ws_set 11 oo (we_met0 m_twin oo hk.2.1 (we_var 8 rfl ⟨a, rfl, (p15.mono hideL_same).at rfl, a, r, it.st, _, G, rfl, p15.mono hideL_same, g15.mono hideL_same, W.wf, W.sz, W.pre, fun b rb H16 Tw => ?_⟩))
              have hOW : ∀ z ∈ OW b rb, H15 z = none := fun z hz => by
                rcases List.mem_cons.mp hz with e | h
                · rw [e]; exact Tw.new
                · exact Tw.free z (List.mem_append_left _ h)
              have h1516 : Same H15 (hideL H16 (OW b rb)) := hideL_of Tw.same hOW
              -- mate.do(step)
              refine ws_expr (we_met m_do oo (by omega) (we_var 11 rfl ⟨b, rfl, Tw.at_.at rfl, wa_cons (we_var 10 rfl (wa_nil ⟨b, y, rb, it.st, G, x, rfl, (hyd.mono hideL_same).mono h1516, Tw.at_, Tw.nd, ?_, W.wf, W.sz, hI.pz W, hsok, fun vv rc H17 St => ?_⟩))⟩))
              · rw [Tw.G, Tw.vp, Tw.vf, Tw.vr]
                exact (g15.mono hideL_same).mono h1516
              have s1517 : Same H15 H17 := h1516.trans St.same
              have hst : hereM G (stepOpened it.st x) = hereM G (stepM G x it.st).opened := by cases x <;> rfl
              have pc := St.at_
              rw [hst] at pc
              have eqG : rc.G = r0.G ∧ rc.vp = r0.vp ∧ rc.vf = r0.vf ∧ rc.vr = r0.vr := ⟨by rw [St.G, Tw.G, eG], by rw [St.vp, Tw.vp, ep], by rw [St.vf, Tw.vf, ef], by rw [St.vr, Tw.vr, er]⟩
              have hdl64 : (stepM G x it.st).deep.length < 64 := (hI'.pz W).deep
              have kn17 := hkn15.mono s1517
              have hf17 := s1517 _ _ hf15
              have hl17 := s1517 _ _ hl15
              have hidd : Same (hideL H15 M) (hideL H17 M) := hideL_mono s1517
              have step1 : acc2 (j + 1) = inner1 G it (acc2 j) x := by
                show ((stepsFor G it.st).take (j + 1)).foldl (inner1 G it) (acc i) = _
                rw [take_len hx', List.foldl_append]
                rfl
              -- where the new process stands
              have nM : ∀ {z : Addr} {o : HO}, H17 z = some o → (∀ φ, o ≠ .ext φ) → (∀ xs, o ≠ .lst xs) → z ∉ M := fun {z o} hz h1 h2 hm => by
                have : z = kD ∨ z = fL ∨ z = lL := by simpa [M] using hm
                rcases this with rfl | rfl | rfl
                · obtain ⟨ks, hk', _⟩ := kn17
                  rw [hk'] at hz
                  cases hz
                  exact h1 _ rfl
                · rw [hf17] at hz
                  cases hz
                  exact h2 _ rfl
                · rw [hl17] at hz
                  cases hz
                  exact h2 _ rfl
              have nN : ∀ {z : Addr} {Hx : Hp}, Same H15 Hx → Hx z = none → z ∉ M := fun {z Hx} sx hz hm => by
                have : z = kD ∨ z = fL ∨ z = lL := by simpa [M] using hm
                rcases this with rfl | rfl | rfl
                · obtain ⟨ks, hk', _⟩ := hkn15
                  rw [sx _ _ hk'] at hz
                  cases hz
                · rw [sx _ _ hf15] at hz
                  cases hz
                · rw [sx _ _ hl15] at hz
                  cases hz
              have pcH : PAt CP (hideL H17 M) b rc (stepM G x it.st) (hereM G (stepM G x it.st).opened) := pc.hid (nN (Same.refl _) Tw.new) (fun z hz => by
                rcases St.own z hz with h | h
                · exact nN (Same.refl _) (Tw.free z (List.mem_append_left _ h))
                · exact nN Tw.same h) (nM pc.slots (fun φ e => by cases e) (fun φ e => by cases e)) (nM pc.here (fun φ e => by cases e) (fun φ e => by cases e))
              let rho : Rho := [none, none, none, none, none, none, none, none, none, none, none, some (.raw (.ref b))]
              have elb : ∀ {H' : Hp}, EL K H' rho [some v0, some .non, some (.ref a0), some (.ref sL), some (.ref kD), some (.ref fL), some (.ref lY), some (.ref lL), some (.ref a), some u, some y, some (.ref b)] := fun {H'} => .skip (.skip (.skip (.skip (.skip (.skip (.skip (.skip (.skip (.skip (.skip (.cons (.raw _) .nil)))))))))))
              have hfl8 : (encBase (stepM G x it.st)).flatT 8 = true := flat_base W hI'
              refine ws_ifM (J2 (j + 1)) (wt_of (pt_cmpR (op_notInKn oo) pe_w pe_w rfl) (we_ee (ee_meth0 m_base oo (by omega) (ee_var 11 rfl) (pc.at rfl) (fun _ s => ⟨b, rc, stepM G x it.st, _, pc.mono s, rfl, rfl, hdl64⟩)) elb fun ub H18 s18 dub => ?_)) (fun σ' H' h => ws_nil h)
              obtain ⟨qb, rfl⟩ : ∃ q, ub = .ref q := by cases dub with | tup h t => exact ⟨_, rfl⟩
              refine we_var 4 rfl ⟨kD, qb, _, _, rfl, rfl, kn17.mono s18, dub, hfl8, _, rfl, ?_⟩
              have hid18 : Same (hideL H15 M) (hideL H18 M) := hidd.trans (hideL_mono s18)
              by_cases hmem : baseOf (stepM G x it.st) ∈ (acc2 j).1
              · have e1 : nkey (encBase (stepM G x it.st)) ∈ ((acc2 j).1.map encB).map nkey := nkB_mem.mpr hmem
                rw [decide_eq_true e1]
                refine iteF (ws_nil ⟨_, _, wt2, rfl, sH2.trans hid18, ?_, s18 _ _ hf17, s18 _ _ hl17, ?_⟩)
                · rw [step1]
                  unfold inner1
                  rw [if_pos hmem]
                  exact kn17.mono s18
                · rw [step1]
                  unfold inner1
                  rw [if_pos hmem]
                  exact hls15.mono hid18
              · have e1 : nkey (encBase (stepM G x it.st)) ∉ ((acc2 j).1.map encB).map nkey := fun h => hmem (nkB_mem.mp h)
                rw [decide_eq_false e1]
                refine iteT ?_
                have pc18 := pc.mono s18
                -- known[mate.base()] = True
                refine ws_asg (we_of pe_bl (wg_of (pg_sub pe_w pe_w (set_kn oo)) (we_var 4 rfl (we_ee (ee_meth0 m_base oo (by omega) (ee_var 11 rfl) (pc18.at rfl) (fun _ s => ⟨b, rc, stepM G x it.st, _, pc18.mono s, rfl, rfl, hdl64⟩)) elb fun uc H19 s19 duc => ?_))))
                obtain ⟨qc, rfl⟩ : ∃ q, uc = .ref q := by cases duc with | tup h t => exact ⟨_, rfl⟩
                have hklen : ((acc2 j).1.map encB).length < sizeLine := by
                  rw [List.length_map]
                  exact Nat.lt_of_le_of_lt ((A2 j).known.len W) (by decide)
                refine ⟨kD, qc, _, _, rfl, rfl, rfl, (kn17.mono s18).mono s19, duc, hfl8, e1, hklen, fun ob hkn20 => ?_⟩
                have e20 : hideL (upd H19 kD ob) M = hideL H19 M := hideL_upd (by simp [M])
                have kdne : ∀ {z : Addr} {xs : List V}, H19 z = some (.lst xs) → z ≠ kD := fun {z xs} hz e => by
                  subst e
                  obtain ⟨ks, hk', _⟩ := (kn17.mono s18).mono s19
                  rw [hk'] at hz
                  cases hz
                have hf20 : upd H19 kD ob fL = some (.lst (wf' ++ [.ref q2])) := by
                  have := s19 _ _ (s18 _ _ hf17)
                  rw [upd_ne (kdne this)]
                  exact this
                have hl20 : upd H19 kD ob lL = some (.lst wt2) := by
                  have := s19 _ _ (s18 _ _ hl17)
                  rw [upd_ne (kdne this)]
                  exact this
                generalize hH20 : upd H19 kD ob = H20 at hkn20 e20 hf20 hl20 ⊢
                have hid20 : Same (hideL H18 M) (hideL H20 M) := by rw [e20]; exact hideL_mono s19
                have hidA : Same (hideL H15 M) (hideL H20 M) := hid18.trans hid20
                have pc20 := (pcH.mono (hideL_mono s18)).mono hid20
                -- later.append((mate, steps + (step,)))
                have hu20 := (u15.mono hidA).mono hideL_same
                have hy20 := (hyd.mono hidA).mono hideL_same
                have hsl : it.steps.length ≤ 16777000 := by
                  have := L.ki.len W
                  omega
                refine ws_append (we_var 7 rfl ⟨lL, rfl, ⟨_, hl20⟩, we_of (pe_tup (pa_cons pe_w (pa_cons pe_w pa_nil))) (we_var 11 rfl (we_ee (ee_op (od_addT (xs := it.steps.map encStep) (ys := [encStep x]) (by
                  rw [List.length_map]
                  exact Nat.le_trans (by simp; omega : _ ≤ 16777001) (by decide))) (ee_var 9 rfl) (ee_tup (ea_cons (ee_var 10 rfl) ea_nil))) (ρ := [none, none, none, none, none, none, none, none, none, some (.tup (it.steps.map encStep)), some (encStep x)]) (.skip (.skip (.skip (.skip (.skip (.skip (.skip (.skip (.skip (.cons hu20 (.cons hy20 .nil))))))))))) fun us H21 s21 dus => ⟨by show 2 ≤ sizeLine; decide, fun q3 hq3 => ⟨wt2, ?_, ?_, ?_⟩⟩))⟩)
                · rw [upd_ne (ne_of_none (s21 _ _ hl20) hq3)]
                  exact s21 _ _ hl20
                · rw [hls15.length]
                  have h1 := (A2 j).len
                  have h2 := (A2 j).known.len W
                  exact Nat.lt_of_le_of_lt (by omega : _ ≤ 5698800) (by decide)
                · have s22 : Same H21 (upd H21 q3 (.tup [.ref b, us])) := Same.new hq3
                  have e23 : hideL (upd (upd H21 q3 (.tup [.ref b, us])) lL (.lst (wt2 ++ [.ref q3]))) M = hideL (upd H21 q3 (.tup [.ref b, us])) M := hideL_upd (by simp [M])
                  have hl22 : upd H21 q3 (.tup [.ref b, us]) lL = some (.lst wt2) := s22 _ _ (s21 _ _ hl20)
                  have kn23 := (((hkn20.mono s21).mono s22).list (o := .lst (wt2 ++ [.ref q3])) hl22)
                  have hf23 : upd (upd H21 q3 (.tup [.ref b, us])) lL (.lst (wt2 ++ [.ref q3])) fL = some (.lst (wf' ++ [.ref q2])) := by
                    rw [upd_ne (Ne.symm lf)]
                    exact s22 _ _ (s21 _ _ hf20)
                  have hl23 : upd (upd H21 q3 (.tup [.ref b, us])) lL (.lst (wt2 ++ [.ref q3])) lL = some (.lst (wt2 ++ [.ref q3])) := upd_same
                  generalize hH23 : upd (upd H21 q3 (.tup [.ref b, us])) lL (.lst (wt2 ++ [.ref q3])) = H23 at e23 kn23 hf23 hl23 ⊢
                  have hid23 : Same (hideL H20 M) (hideL H23 M) := by rw [e23]; exact hideL_mono (s21.trans s22)
                  have hq3M : q3 ∉ M := fun hm => by
                    have : q3 = kD ∨ q3 = fL ∨ q3 = lL := by simpa [M] using hm
                    rcases this with rfl | rfl | rfl
                    · obtain ⟨ks, hk', _⟩ := hkn20.mono s21
                      rw [hk'] at hq3
                      cases hq3
                    · rw [s21 _ _ hf20] at hq3
                      cases hq3
                    · rw [s21 _ _ hl20] at hq3
                      cases hq3
                  have hq23 : hideL H23 M q3 = some (.tup [.ref b, us]) := by rw [e23, hideL_at hq3M]; exact upd_same
                  -- the steps' data do not lean on the lists
                  have dus' : Dat K (hideL H23 M) us (.tup ((it.steps ++ [x]).map encStep)) := by
                    have dd : Dat K H21 us (.tup ((it.steps ++ [x]).map encStep)) := by
                      rw [List.map_append]
                      exact dus
                    rw [e23]
                    refine (Dat.keepT (fun bb xs h => ?_) (dd.mono s22) (imms_map fun z _ => by cases z <;> rfl))
                    rcases h with h | h
                    · have ne : bb ∉ M := fun hm => by
                        have : bb = kD ∨ bb = fL ∨ bb = lL := by simpa [M] using hm
                        rcases this with rfl | rfl | rfl
                        · obtain ⟨ks, hk', _⟩ := (hkn20.mono s21).mono s22
                          rcases h with h | ⟨_, h⟩ <;> (rw [hk'] at h; cases h)
                        · have hk' := s22 _ _ (s21 _ _ hf20)
                          rcases h with h | ⟨_, h⟩ <;> (rw [hk'] at h; cases h)
                        · rcases h with h | ⟨_, h⟩ <;> (rw [hl22] at h; cases h)
                      rcases h with h | ⟨ob', h⟩
                      · exact .inl (.inl (by rw [hideL_at ne]; exact h))
                      · exact .inl (.inr ⟨ob', by rw [hideL_at ne]; exact h⟩)
                    · exact .inr h
                  refine ws_nil ⟨_, _, wt2 ++ [.ref q3], rfl, (sH2.trans hidA).trans hid23, ?_, hf23, hl23, ?_⟩
                  · rw [step1]
                    unfold inner1
                    rw [if_neg hmem, List.map_append]
                    exact kn23
                  · rw [step1]
                    unfold inner1
                    rw [if_neg hmem]
                    exact (hls15.mono (hidA.trans hid23)).snoc ⟨q3, b, rc, us, rfl, .inl (.inl hq23), dus', pc20.mono hid23, eqG⟩
            · rintro σ H15 ⟨z10, z11, wt2, rfl, sH2, hkn15, hf15, hl15, hls15⟩
              have hwl : wS.length = (stepsFor G it.st).length := by rw [hd14.length, List.length_map]
              have eacc : acc2 wS.length = acc (i + 1) := by
                show ((stepsFor G it.st).take wS.length).foldl (inner1 G it) (acc i) = layerM G ((it0 :: lr).take (i + 1)) (known, [])
                rw [hwl, List.take_length, take_len hit]
                show innerM G (acc i) it = _
                unfold layerM
                rw [List.foldl_append]
                rfl
              rw [eacc] at hkn15 hls15
              exact ws_nil ⟨_, _, _, _, _, _, rfl, (sH.trans hid13).trans (hid14.trans sH2), hkn15, hf15, fs13.mono (hid14.trans sH2), hl15, hls15⟩
          · rintro σ H12 ⟨y8, y9, y10, y11, wf', wt, rfl, sH, hkn12, hf12, hfs12, hl12, hls12⟩
            have hwl : (w0 :: wr).length = (it0 :: lr).length := hll
            rw [hwl] at hkn12 hfs12 hls12
            rw [List.take_length] at hfs12
            have eacc : acc (it0 :: lr).length = layerM G (it0 :: lr) (known, []) := by
              show layerM G ((it0 :: lr).take (it0 :: lr).length) (known, []) = _
              rw [List.take_length]
            rw [eacc] at hkn12 hls12
            have AA : AInv G known.length (layerM G (it0 :: lr) (known, [])) := by rw [← eacc]; exact A _
            have sub : Same (hideL H12 M) (hideL H12 [kD, fL]) := hideL_sub fun x hx => by
              have : x = kD ∨ x = fL := by simpa using hx
              rcases this with rfl | rfl <;> simp [M]
            have hlen := L.cnt
            have hkl := L.ki.len W
            have hAl := AA.len
            have hAk := AA.known.len W
            have hmn := L.mn
            have hle := L.le
            rw [if_neg (by simp)] at hmn
            obtain ⟨n', rfl⟩ : ∃ n', n = n' + 1 := ⟨n - 1, by omega⟩
            refine ws_set 6 oo (we_var 7 rfl (ws_nil ⟨2 * (5698800 - (layerM G (it0 :: lr) (known, [])).1.length) + (if (layerM G (it0 :: lr) (known, [])).2 = [] then 0 else 1), ?_, (layerM G (it0 :: lr) (known, [])).1, found ++ it0 :: lr, (layerM G (it0 :: lr) (known, [])).2, lL, wf', wt, n',
              ⟨⟨_, _, _, _, _, rfl⟩, ((base10.trans hid).trans sH).trans sub, hkn12, hf12, hfs12.mono sub, ?_, hls12.mono sub, AA.known, ?_, (fun z hz => ⟨AA.later z hz, AA.stl z hz⟩), ?_, ?_, rfl, ?_⟩⟩))
            · cases hq : (layerM G (it0 :: lr) (known, [])).2 with
              | nil =>
                rw [if_pos rfl]
                omega
              | cons z r =>
                rw [if_neg (by simp)]
                rw [hq, List.length_cons] at hAl
                omega
            · rw [hideL_at (by simp [lk, lf])]
              exact hl12
            · intro z hz
              rcases List.mem_append.mp hz with h | h
              · exact L.fi z h
              · exact (L.li z h).1
            · rw [List.length_append, hAl]
              simp only [List.length_cons] at hlen ⊢
              omega
            · rw [← L.go]
              rfl
            · cases hq : (layerM G (it0 :: lr) (known, [])).2 with
              | nil =>
                rw [if_pos rfl]
                omega
              | cons z r =>
                rw [if_neg (by simp)]
                rw [hq, List.length_cons] at hAl
                omega
end
end K74

set_option Elab.async false
set_option linter.all false
set_option maxRecDepth 100000
set_option maxHeartbeats 4000000
/-! K74.KS1: < of tuples of texts (after HandS.List's, there for ints), their order. -/
namespace K74
open PySem PySem.Spec PyProof.Rows
open PySem.SeqAt
open PySem.AutoSeq1 (wpAny_loadPart')
open PySem.MeetsSeq PySem.MeetsSeq2 PySem.MeetsSeq3

def lexS : List S → List S → Bool
  | [], [] => false
  | [], _ :: _ => true
  | _ :: _, [] => false
  | x :: xs, y :: ys => if x = y then lexS xs ys else decide (x.cps.toList < y.cps.toList)
theorem lexS_eq {a c : S} {xs ys : List S} (h : a = c) : lexS (a :: xs) (c :: ys) = lexS xs ys := by
  conv => lhs; unfold lexS
  rw [if_pos h]
theorem lexS_ne {a c : S} {xs ys : List S} (h : ¬ a = c) : lexS (a :: xs) (c :: ys) = decide (a.cps.toList < c.cps.toList) := by
  conv => lhs; unfold lexS
  rw [if_neg h]
theorem tuple_lt_strs (l b : Addr) (items items2 : Array Value) (n n2 : Nat) (dd dd2 : Option Addr) (sl sl2 : Array (Option Value)) (ns ms : List S) (hi : StrsAre items.toList ns) (hj : StrsAre items2.toList ms) :
    Meets (Builtin.«tuple.__lt__» ⟨[.ref l, .ref b], []⟩)
      (fun _ R s => s.heap.get? l = some { cls := .type "tuple", dict := dd, data := .seq items n, slots := sl } ∧ s.heap.get? b = some { cls := .type "tuple", dict := dd2, data := .seq items2 n2, slots := sl2 } ∧
        R (.ok (.ret (.bool (lexS ns ms)))) s) :=
  .of_wp fun prog w A R s h => by
    obtain ⟨hp, g, d, tk, os⟩ := s; obtain ⟨hl, hb, h⟩ := h
    have f2 := AutoSeq1.sub_tuple_tuple
    have z1 : items.size = ns.length := by rw [← StrsAre.len_eq hi]; simp
    have z2 : items2.size = ms.length := by rw [← StrsAre.len_eq hj]; simp
    wp_walk using wpAny_loadPart' hl, wpAny_loadPart' hb, wpAny_forIn_list _ (fun rest b s' => b.1 = none ∧ s' = ⟨hp, g, d, tk, os⟩ ∧ ∃ (vs ws : List Value) (ns' ms' : List S), rest = vs.zip ws ∧
      StrsAre vs ns' ∧ StrsAre ws ms' ∧ ns'.length + items2.size = ms'.length + items.size ∧ R (.ok (.ret (.bool (lexS ns' ms')))) ⟨hp, g, d, tk, os⟩) _
    case turn =>
      rintro ⟨y, x⟩ rest b s' ⟨hb', rfl, vs, ws, ns', ms', hz, hvi, hwi, hlen, hR⟩
      cases hvi with
      | nil => rw [List.zip_nil_left] at hz; cases hz
      | cons a t hvi' =>
        cases hwi with
        | nil => rw [List.zip_nil_right] at hz; cases hz
        | cons c u hwi' =>
          rw [List.zip_cons_cons] at hz
          injection hz with hyx hrest
          injection hyx with hy hx
          subst hy hx
          simp only [List.length_cons] at hlen
          have he := SeqAt.EqAt.str_str (A := A.in1) (s := ⟨hp, g, d, tk, os⟩) a t c u
          refine wpAny_bind (he prog w _ _ ?_)
          by_cases hac : a = c
          · rw [lexS_eq hac] at hR
            have e1 : (a == c) = true := by simpa using hac
            rw [e1]
            wp_walk
            exact ⟨rfl, rfl, _, _, _, _, hrest, hvi', hwi', by omega, hR⟩
          · rw [lexS_ne hac] at hR
            have e1 : (a == c) = false := by simpa using hac
            rw [e1]
            have hri := DT.rcLt_str A.in1 ⟨hp, g, d, tk, os⟩ a t c u prog w
            wp_walk using hri
            exact ⟨_, rfl, by simpa using hR⟩
    case fin =>
      rintro ⟨b1, b2⟩ s' ⟨hb', rfl, vs, ws, ns', ms', hz, hvi, hwi, hlen, hR⟩
      simp only at hb'
      subst hb'
      have hv : lexS ns' ms' = decide (items.size < items2.size) := by
        cases hvi with
        | nil =>
          cases hwi with
          | nil =>
            simp only [List.length_nil] at hlen
            exact (decide_eq_false (by omega)).symm
          | cons c u hw =>
            simp only [List.length_nil, List.length_cons] at hlen
            exact (decide_eq_true (by omega)).symm
        | cons a t hv =>
          cases hwi with
          | nil =>
            simp only [List.length_nil, List.length_cons] at hlen
            exact (decide_eq_false (by omega)).symm
          | cons c u hw =>
            rw [List.zip_cons_cons] at hz
            cases hz
      rw [hv] at hR
      wp_walk
      exact ⟨_, rfl, by simpa [Builtin.Tuple.tupleCompareSizes] using hR⟩
    case h =>
      exact ⟨rfl, rfl, items.toList, items2.toList, ns, ms, rfl, hi, hj, by omega, h⟩
section
variable {prog : Program} {w : World} {A : Around} {E : Value → Shared → Prop} {s : Shared}
theorem lt_tupStrs {l b : Addr} {items items2 : Array Value} {ns ms : List S} {Q : Value → Shared → Prop} (hl : IsTup s.heap l items) (hb : IsTup s.heap b items2) (hi : StrsAre items.toList ns) (hj : StrsAre items2.toList ms)
    (hu : A.units < cLine) (h : Q (.bool (lexS ns ms)) s) : wpAny (model prog w) A (compareOp .Lt (.ref l) (.ref b)) Q E s := by
  obtain ⟨⟨cls, dd, data, sl⟩, ho, hc, n, hd⟩ := id hl
  obtain ⟨⟨cls2, dd2, data2, sl2⟩, ho2, hc2, n2, hd2⟩ := id hb
  simp only at hc hd hc2 hd2
  subst hc hd hc2 hd2
  exact richCompare_meets_room (op := .Lt) ⟨_, ho, rfl⟩ ⟨_, ho2, rfl⟩ PySem.F.slot_tuple_lt PySem.F.entry_tuple_lt (PySem.F.args_tuple_lt_2 _ _) (tuple_lt_strs l b items items2 n n2 dd dd2 sl sl2 ns ms hi hj)
    ⟨ho, ho2, show Value.bool (lexS ns ms) ≠ Value.notImplemented ∧ Q (.bool (lexS ns ms)) s from ⟨(fun x => nomatch x), h⟩⟩ hu
end
/-! ### the order -/
theorem ltL_irr (a : List Nat) : ¬ a < a := List.lt_irrefl _
theorem S_eq {x y : S} (h : x.cps.toList = y.cps.toList) : x = y := by
  cases x
  cases y
  simp only at h
  congr 1
  exact Array.toList_inj.mp h
theorem lexS_irr : ∀ a : List S, lexS a a = false
  | [] => rfl
  | x :: xs => by
    unfold lexS
    rw [if_pos rfl]
    exact lexS_irr xs
theorem lexS_tri : ∀ a b : List S, a ≠ b → lexS a b = true ∨ lexS b a = true
  | [], [], h => absurd rfl h
  | [], _ :: _, _ => .inl rfl
  | _ :: _, [], _ => .inr rfl
  | x :: xs, y :: ys, h => by
    unfold lexS
    by_cases e : x = y
    · subst e
      rw [if_pos rfl, if_pos rfl]
      exact lexS_tri xs ys fun z => h (by rw [z])
    · rw [if_neg e, if_neg (Ne.symm e)]
      rcases Std.Trichotomous.rel_or_eq_or_rel_swap (r := ((· < ·) : List Nat → List Nat → Prop)) (a := x.cps.toList) (b := y.cps.toList) with h1 | h1 | h1
      · exact .inl (decide_eq_true h1)
      · exact absurd (S_eq h1) e
      · exact .inr (decide_eq_true h1)
theorem lexS_trans : ∀ a b c : List S, lexS a b = true → lexS b c = true → lexS a c = true
  | [], [], _, h, _ => by cases h
  | [], _ :: _, [], _, h => by cases h
  | [], _ :: _, _ :: _, _, _ => rfl
  | _ :: _, [], _, h, _ => by cases h
  | _ :: _, _ :: _, [], _, h => by cases h
  | x :: xs, y :: ys, z :: zs, h1, h2 => by
    unfold lexS at h1 h2 ⊢
    by_cases e1 : x = y
    · subst e1
      rw [if_pos rfl] at h1
      by_cases e2 : x = z
      · rw [if_pos e2] at h2 ⊢
        exact lexS_trans xs ys zs h1 h2
      · rw [if_neg e2] at h2 ⊢
        exact h2
    · rw [if_neg e1] at h1
      by_cases e2 : y = z
      · subst e2
        rw [if_neg e1]
        exact h1
      · rw [if_neg e2] at h2
        have h3 := List.lt_trans (of_decide_eq_true h1) (of_decide_eq_true h2)
        have e3 : x ≠ z := fun e => by
          subst e
          exact ltL_irr _ h3
        rw [if_neg e3]
        exact decide_eq_true h3
/-- a rank among those of a list -/
def rankS (L : List (List S)) (a : List S) : Int := ((L.countP fun b => lexS b a : Nat) : Int)
theorem rank_lt {L : List (List S)} {a b : List S} (ha : a ∈ L) (hb : b ∈ L) : lexS a b = decide (rankS L a < rankS L b) := by
  have mono : ∀ {a b : List S}, a ∈ L → lexS a b = true → rankS L a < rankS L b := fun {a b} ha h => by
    unfold rankS
    have : L.countP (fun c => lexS c a) < L.countP (fun c => lexS c b) := by
      have h1 : ∀ c, lexS c a = true → lexS c b = true := fun c hc => lexS_trans c a b hc h
      have g : ∀ (L : List (List S)), L.countP (fun c => lexS c a) ≤ L.countP (fun c => lexS c b) := fun L => List.countP_mono_left fun c _ hc => h1 c hc
      have g2 : ∀ (L : List (List S)), a ∈ L → L.countP (fun c => lexS c a) < L.countP (fun c => lexS c b) := by
        intro L
        induction L with
        | nil => intro h; cases h
        | cons x r ih =>
          intro hm
          rw [List.countP_cons, List.countP_cons]
          rcases List.mem_cons.mp hm with e | hm
          · subst e
            rw [lexS_irr, h]
            have := g r
            simp only [if_true, Bool.false_eq_true, if_false]
            omega
          · have h2 := ih hm
            cases hq : lexS x a with
            | true =>
              rw [h1 x hq]
              omega
            | false =>
              simp only [Bool.false_eq_true, if_false]
              split <;> omega
      exact g2 L ha
    exact Int.ofNat_lt.mpr this
  cases hq : lexS a b with
  | true => exact (decide_eq_true (mono ha hq)).symm
  | false =>
    refine (decide_eq_false fun h => ?_).symm
    by_cases e : a = b
    · subst e
      exact absurd h (Int.lt_irrefl _)
    · rcases lexS_tri a b e with h1 | h1
      · rw [hq] at h1
        cases h1
      · exact absurd (mono hb h1) (by omega)
end K74

set_option Elab.async false
set_option linter.all false
set_option maxRecDepth 100000
set_option maxHeartbeats 4000000
/-! K74.KS2: sorted(d.items()), keys tuples of texts, values nested tuples (after HandS.DictTup's rule). -/
namespace K74
open PySem PySem.Spec PyProof.Rows L2 L2.DX
open DT (seqAt0 seqAt0_of refOf txOf)
open PySem.W (KatTups kat_kind KatLex kat_cons kat_go kat_yes kat_no kat_nil kat_one kat_lt)

/-- all items of the tuple at a -/
def seqAll (h : Heap) (a : Addr) : List Value := match h.get? a with
  | some o => (match o.data with
    | .seq xs _ => xs.toList
    | _ => [])
  | none => []
theorem seqAll_of {h : Heap} {a : Addr} {items : Array Value} (x : IsTup h a items) : seqAll h a = items.toList := by
  obtain ⟨o, ho, hc, n, hd⟩ := x
  simp only [seqAll, ho, hd]
def keyAn (h : Heap) (v : Value) : Ans := (seqAll h (refOf (seqAt0 h (refOf (some v))))).map fun u => txOf (some u)
theorem map_inj'' : ∀ {xs ys : List S}, (xs.map Sum.inr : List L2.Key) = ys.map Sum.inr → xs = ys
  | [], [], _ => rfl
  | [], _ :: _, h => by cases h
  | _ :: _, [], h => by cases h
  | x :: xs, y :: ys, h => by
    rw [List.map_cons, List.map_cons] at h
    injection h with h1 h2
    injection h1 with h3
    rw [h3, map_inj'' h2]
theorem strs_tx : ∀ {us : List Value} {xs : List S}, StrsAre us xs → us.map (fun u => txOf (some u)) = xs
  | _, _, .nil => rfl
  | _, _, .cons y t r => by rw [List.map_cons, strs_tx r]; rfl
/-- v is a pair: a tuple of the texts y, a nested tuple m -/
def PairA (h : Heap) (v : Value) (y : Ans) (m : NestedKey) : Prop :=
  ∃ (a k b : Addr) (its : List Value), v = .ref a ∧ IsTup h a #[.ref k, .ref b] ∧ IsTup h k its.toArray ∧ StrsAre its y ∧ NestedIs h m (.ref b) ∧ m.depth ≤ 8
theorem PairA.tx {h : Heap} {v : Value} {y : Ans} {m : NestedKey} (x : PairA h v y m) : keyAn h v = y := by
  obtain ⟨a, k, b, its, rfl, h1, h2, h3, _⟩ := x
  show (seqAll h (refOf (seqAt0 h a))).map _ = y
  rw [seqAt0_of h1]
  show (seqAll h k).map _ = y
  rw [seqAll_of h2]
  simpa using strs_tx h3
section
variable {prog : Program} {w : World} {A : Around} {E : Value → Shared → Prop} {s : Shared}
theorem firsts_A {h : Heap} {M : Ans → NestedKey} : ∀ vs : List Value, (∀ v ∈ vs, ∃ y, PairA h v y (M y)) → ∃ fs : List Value, KatTups h vs fs ∧ fs.length = vs.length ∧ ∀ f ∈ fs, ∃ (q : Addr) (o : Obj), f = Value.ref q ∧ h.get? q = some o ∧ o.cls = .type "tuple"
  | [], _ => ⟨[], KatTups.nil, rfl, fun f hf => by simp at hf⟩
  | v :: vs, x => by
    obtain ⟨fs, k, hl, hi⟩ := firsts_A vs fun u hu => x u (List.mem_cons_of_mem _ hu)
    obtain ⟨y, a, q, b, its, rfl, ⟨o, ho, hc, n, hd⟩, ⟨o2, ho2, hc2, _⟩, _⟩ := x v (List.mem_cons_self ..)
    refine ⟨.ref q :: fs, KatTups.cons ho hc hd rfl k, by rw [List.length_cons, List.length_cons, hl], fun f hf => ?_⟩
    rcases List.mem_cons.mp hf with rfl | hf
    · exact ⟨q, o2, rfl, ho2, hc2⟩
    · exact hi f hf
theorem keyItems {prog : Program} {w : World} : ∀ {us : List Value} {xs : List S}, StrsAre us xs → ItemsAre (mixKind prog w) (xs.map Sum.inr) us
  | _, _, .nil => .nil
  | _, _, .cons y t r => .cons (mixKind_str prog w y t) (keyItems r)
theorem kind_tA {vs : List Value} {ρ : Ans → Int} {M : Ans → NestedKey} (h2 : 2 ≤ vs.length) (hu : A.units + 8 < cLine) (x : ∀ v ∈ vs, ∃ y, PairA s.heap v y (M y))
    (hρ : ∀ v ∈ vs, ∀ u ∈ vs, lexS (keyAn s.heap v) (keyAn s.heap u) = decide (ρ (keyAn s.heap v) < ρ (keyAn s.heap u))) (Q : SortKind → Shared → Prop)
    (h : ∀ κ, TS.Cmp prog w A s κ (pairsOf vs) (fun v => ρ (keyAn s.heap v)) → Q κ s) : wpAny (model prog w) A (keyKind' vs.toArray) Q E s := by
  obtain ⟨fs, k, hl, hi⟩ := firsts_A vs x
  have hu0 : A.units < cLine := by omega
  refine kat_kind (T := Value.type "tuple") k (by omega) (fun f hf => ?_) rfl (h _ ?_)
  · obtain ⟨q, o, rfl, ho, hc⟩ := hi f hf
    have z : PySem.W.Looks (model prog w) s.heap (typeOf (.ref q)) o.cls := (PySem.W.Looks.ld ho).andThen .now
    rw [hc] at z
    exact z
  · have hb : (Value.type "tuple" != Value.type "tuple") = false := by first | rfl | decide | simp
    rw [hb]
    intro p q hp hq Q' E' hQ
    rw [pairsOf_toList] at hp hq
    have mp := (mem_zip_self hp).2
    have mq := (mem_zip_self hq).2
    obtain ⟨y, py⟩ := x _ mp
    obtain ⟨z, pz⟩ := x _ mq
    have hr := hρ _ mp _ mq
    have hQ' : Q' (lexS y z) s := by
      rw [py.tx, pz.tx] at hr
      rw [hr]
      have hQ2 : Q' (decide (ρ (keyAn s.heap p.1) < ρ (keyAn s.heap q.1))) s := hQ
      rw [py.tx, pz.tx] at hQ2
      exact hQ2
    obtain ⟨a, ka, ba, its, e1, ⟨o, ho, hc, n, hd⟩, t2, i2, t3, d3⟩ := py
    obtain ⟨a', kb, bb, its', e2, ⟨o', ho', hc', n', hd'⟩, t2', i2', t3', d3'⟩ := pz
    rw [e1, e2]
    refine kat_lt ho hd ho' hd' ?_
    show KatLex prog w A false false Q' [(Value.ref ka, Value.ref kb), (Value.ref ba, Value.ref bb)] 0 s
    have k1 : IsTupleKey (mixKind prog w) s.heap (y.map Sum.inr) ka := by
      obtain ⟨ok, hok, ck, nk, dk⟩ := t2
      exact ⟨ok, _, nk, hok, ck, dk, by simpa using keyItems i2⟩
    have k2 : IsTupleKey (mixKind prog w) s.heap (z.map Sum.inr) kb := by
      obtain ⟨ok, hok, ck, nk, dk⟩ := t2'
      exact ⟨ok, _, nk, hok, ck, dk, by simpa using keyItems i2'⟩
    by_cases e : y = z
    · rw [e, lexS_irr] at hQ'
      refine kat_cons (wpAny_eqBool_tuple hu0 k1 k2 ?_)
      refine kat_go (fun _ => ?_) (fun e0 => absurd (by rw [e]) (of_decide_eq_false e0))
      refine kat_yes (kat_cons ((nestedKind prog w).eqBool (x := M y) (y := M z) hu ⟨t3, d3⟩ ⟨t3', d3'⟩ ?_))
      refine kat_go (fun _ => ?_) (fun e0 => absurd (by rw [e]) (of_decide_eq_false e0))
      exact kat_yes (kat_nil hQ')
    · refine kat_cons (wpAny_eqBool_tuple hu0 k1 k2 ?_)
      refine kat_go (fun e0 => ?_) (fun _ => ?_)
      · exfalso
        have z0 := of_decide_eq_true e0
        exact e (map_inj'' z0)
      · refine kat_no ?_
        show wpAny _ _ (oneLt' false _ _) _ _ _
        exact kat_one _ _ (lt_tupStrs t2 t2' (by simpa using i2) (by simpa using i2') hu0 hQ')
end
abbrev entA (e : Ans × Addr) : List L2.Key × V := (e.1.map Sum.inr, V.ref e.2)
def rSortA (X : Cx) : List V → Hp → VK → Prop := fun vs H Q => ∃ (p a : Addr) (ks : List (Ans × Addr)) (M : Ans → D), vs = [.ref p] ∧ H p = some (itemsO p a) ∧ H a = some (.dT (ks.map entA)) ∧ ks.length < 64 ∧
  (∀ e ∈ ks, Dat X.K H (.ref e.2) (M e.1) ∧ (M e.1).flatT 8 = true) ∧
  ∀ (H' : Hp) (l : Addr) (ps : List (Addr × Ans × Addr)), (∀ b o, H b = some o → H' b = some o) → (ps.map (·.2)).Perm ks → H' l = some (.lst (ps.map fun z => V.ref z.1)) →
    (∀ z ∈ ps, ∃ q, H' z.1 = some (.tup [.ref q, .ref z.2.2]) ∧ H' q = some (.tup (z.2.1.map V.str))) → Q (.ref l) H'
section
variable {X : Cx}
theorem cr_sortedItemsA (hc : X.calm = true) (hu : X.A.units + 64 < cLine) : CallR X (.builtin "sorted") (rSortA X) := by
  intro pins s σ H xs us Q I r h
  obtain ⟨p, a, ks, M, rfl, hp, ha, h64, hv, q⟩ := h
  let ρ : Ans → Int := rankS (ks.map (·.1))
  obtain rfl := Vals.ref1 r
  have view : s.heap.IsItemsView p a := (show ObjOk X.prog X.w H s.heap p (itemsO p a) from I.hok p _ hp).1
  obtain ⟨z, hd, xs', rel, o, es, ep, ho, hx, hdat, hes, his, hn⟩ := dt_of I.hok ha
  have l1 : (ks.map entA).length = xs'.length := Paired.length rel
  rw [List.length_map] at l1
  have l2 : es.size = xs'.length := size_of_entries hes
  have hh : X.A.handled = none := I.ok.hd hc
  refine DT.sortedI (es := es) (ep := ep) hh view ⟨o, ho, hx, hdat⟩ (by rw [sizeLine_eq]; omega) fun h' tk as hk hlt hl hG => ?_
  have lak : as.length = ks.length := by omega
  have nd : as.Nodup := List.Pairwise.imp (fun h => Nat.ne_of_lt h) hG.rise
  -- the pairs that were made
  have pr : ∀ (j : Nat) (b : Addr), as[j]? = some b → ∃ (e : Ans × Addr) (kq : Addr), ks[j]? = some e ∧ H kq = some (.tup (e.1.map V.str)) ∧ h'.get? b = some { cls := .type "tuple", data := .seq #[Value.ref kq, Value.ref e.2] } := by
    intro j b hj
    obtain ⟨en, he, hg⟩ := hG.pairs j b hj
    rw [entry_at hes j] at he
    cases hxj : xs'[j]? with
    | none =>
      rw [hxj] at he
      exact nomatch (show (none : Option DictEntry) = some en from he)
    | some x =>
      rw [hxj] at he
      have een : entryOfKey (tupleKind (mixKind X.prog X.w)) x = en := Option.some.inj he
      obtain ⟨e0, he0, r1, r2, r3⟩ := pget rel hxj
      rw [List.getElem?_map] at he0
      cases hkj : ks[j]? with
      | none =>
        rw [hkj] at he0
        exact nomatch (show (none : Option (List L2.Key × V)) = some e0 from he0)
      | some e =>
        rw [hkj] at he0
        have ee : entA e = e0 := Option.some.inj he0
        rw [← ee] at r2 r3
        have r3' : x.2.2 = Value.ref e.2 := r3
        refine ⟨e, x.2.1, rfl, (by
          have r2' : H x.2.1 = some (.tup ((entA e).1.map kV)) := r2
          rw [show (entA e).1.map kV = e.1.map V.str by show (e.1.map Sum.inr).map kV = _; rw [List.map_map]; rfl] at r2'
          exact r2'), ?_⟩
        rw [hg, ← een, ← r3']
        all_goals rfl
  -- the heap of the sort
  have hob : (h'.push { cls := .type "list", data := .seq (as.map Value.ref).toArray }).get? h'.objs.size = some (seqObj "list" (as.map Value.ref).toArray 0) := Heap.get?_push_size _ rfl
  have kb : ∀ b o, s.heap.get? b = some o → (h'.push { cls := .type "list", data := .seq (as.map Value.ref).toArray }).get? b = some o := fun b o e => Heap.get?_push_of_some _ (hk b o e)
  have ne0 : ∀ b o, h'.get? b = some o → b ≠ h'.objs.size := fun b o e => Nat.ne_of_lt (Heap.lt_size e)
  generalize hh2 : h'.push { cls := .type "list", data := .seq (as.map Value.ref).toArray } = h2 at hob kb ⊢
  have ka : ∀ b o, h'.get? b = some o → h2.get? b = some o := fun b o e => by rw [← hh2]; exact Heap.get?_push_of_some _ e
  have pin : ∀ (j : Nat) (b : Addr), as[j]? = some b → ∃ e : Ans × Addr, ks[j]? = some e ∧ PairA (TS.midHeap h2 h'.objs.size (as.map Value.ref)) (.ref b) e.1 (nkey (M e.1)) := by
    intro j b hj
    obtain ⟨e, kq, he, hkq, hg⟩ := pr j b hj
    obtain ⟨_, its, rv, ot, hot, hct, nt, hdt⟩ := (show ObjOk X.prog X.w H s.heap kq (.tup (e.1.map V.str)) from I.hok kq _ hkq)
    obtain ⟨dv, fv⟩ := hv e (List.mem_of_getElem? he)
    obtain ⟨iv, dpv⟩ := nested_of I 8 dv rfl fv
    refine ⟨e, he, b, kq, e.2, its, rfl, ⟨_, TS.midHeap_old (ne0 _ _ hg) (ka _ _ hg), rfl, 0, rfl⟩, ⟨ot, TS.midHeap_old (ne0 _ _ (hk _ _ hot)) (kb _ _ hot), hct, nt, hdt⟩, strsAre_of rv, NestedIs.at (fun c oc vs n hc hd => TS.midHeap_old (ne0 _ _ (hk _ _ hc)) (kb _ _ hc)) _ _ iv, dpv⟩
  have tx : ∀ (j : Nat) (b : Addr) (e : Ans × Addr), as[j]? = some b → ks[j]? = some e → keyAn (TS.midHeap h2 h'.objs.size (as.map Value.ref)) (.ref b) = e.1 := by
    intro j b e hj he
    obtain ⟨e', he', hp'⟩ := pin j b hj
    have ee : e' = e := Option.some.inj (he'.symm.trans he)
    rw [← ee]
    exact hp'.tx
  have at_ : ∀ v ∈ as.map Value.ref, ∃ (j : Nat) (b : Addr) (e : Ans × Addr), v = .ref b ∧ as[j]? = some b ∧ ks[j]? = some e := by
    intro v hv'
    obtain ⟨b, hb, rfl⟩ := List.mem_map.mp hv'
    obtain ⟨j, hj⟩ := List.mem_iff_getElem?.mp hb
    obtain ⟨e, _, he, _⟩ := pr j b hj
    exact ⟨j, b, e, rfl, hj, he⟩
  refine wpAny_call_entry PyProof.Rows.slot_list_sort ⟨_, hob, rfl⟩ PyProof.Rows.entry_list_sort
    (SK.plain_sort (s := { s with heap := h2, toks := tk }) (r := fun v => ρ (keyAn (TS.midHeap h2 h'.objs.size (as.map Value.ref)) v)) hob (by rw [List.length_map]; omega) (fun h2' Qk hQk => ?_) fun ps out o1 o2 o3 => ⟨.none, rfl, ?_⟩) (PyProof.Rows.args_list_sort _)
  · refine kind_tA (s := { s with heap := TS.midHeap h2 h'.objs.size (as.map Value.ref), toks := tk }) (ρ := ρ) (M := fun y => nkey (M y)) h2' (by show X.A.units + 1 + 1 + 8 < cLine; omega) (fun v hv' => ?_) (fun v hv' u hu' => ?_) Qk hQk
    · obtain ⟨j, b, e, rfl, hj, he⟩ := at_ v hv'
      obtain ⟨e', _, hp'⟩ := pin j b hj
      exact ⟨e'.1, hp'⟩
    · obtain ⟨j, b, e, rfl, hj, he⟩ := at_ v hv'
      obtain ⟨j2, b2, e2, rfl, hj2, he2⟩ := at_ u hu'
      show lexS (keyAn (TS.midHeap h2 h'.objs.size (as.map Value.ref)) (.ref b)) (keyAn (TS.midHeap h2 h'.objs.size (as.map Value.ref)) (.ref b2)) = decide (ρ (keyAn (TS.midHeap h2 h'.objs.size (as.map Value.ref)) (.ref b)) < ρ (keyAn (TS.midHeap h2 h'.objs.size (as.map Value.ref)) (.ref b2)))
      rw [tx j b e hj he, tx j2 b2 e2 hj2 he2]
      exact rank_lt (List.mem_map.mpr ⟨e, List.mem_of_getElem? he, rfl⟩) (List.mem_map.mpr ⟨e2, List.mem_of_getElem? he2, rfl⟩)
  · show EP X pins σ Q (.ref h'.objs.size) { s with heap := sortedHeap h2 h'.objs.size (as.map Value.ref) out, toks := tk }
    obtain ⟨zs, pz, ez⟩ := perm_lift (fun z : Addr × Ans × Addr => (Value.ref z.1, Value.ref z.1)) o2 (as.zip ks) (zip_self Value.ref as ks lak)
    have idx : ∀ z ∈ zs, ∃ j : Nat, as[j]? = some z.1 ∧ ks[j]? = some z.2 := by
      intro z' hz'
      obtain ⟨j, hj⟩ := List.mem_iff_getElem?.mp (pz.mem_iff.mp hz')
      exact ⟨j, List.getElem?_zip_eq_some.mp hj⟩
    have hout : out.toList = zs.map fun z => Value.ref z.1 := by
      rw [o1, ← ez, List.map_map]
      all_goals rfl
    have hperm : (zs.map (·.2)).Perm ks := by
      have e := pz.map (·.2)
      have m2 : (as.zip ks).map (·.2) = ks := List.map_snd_zip (by rw [lak]; exact Nat.le_refl _)
      rw [m2] at e
      exact e
    -- behind the sort
    have kF : ∀ b o, b ≠ h'.objs.size → h2.get? b = some o → (sortedHeap h2 h'.objs.size (as.map Value.ref) out).get? b = some o := fun b o hb e => (PyProof.Rows.sortedHeap_old hb (Heap.lt_size e)).trans e
    have kS : ∀ b o, s.heap.get? b = some o → (sortedHeap h2 h'.objs.size (as.map Value.ref) out).get? b = some o := fun b o e => kF b o (ne0 _ _ (hk b o e)) (kb b o e)
    obtain ⟨eF, heF⟩ := PyProof.Rows.sortedHeap_at (vs := as.map Value.ref) (out := out) hob
    have I1 : Inv X pins σ H { s with heap := sortedHeap h2 h'.objs.size (as.map Value.ref) out, toks := tk } := I.kept (t' := tk) kS
    have hn0 : H h'.objs.size = none := I.hok.fresh (Nat.le_of_lt hlt)
    have hlen : (zs.map fun z => V.ref z.1).length ≤ sizeLine := by
      have e := hperm.length_eq
      rw [List.length_map] at e
      rw [List.length_map, sizeLine_eq]
      omega
    have rv : Vals (zs.map fun z => V.ref z.1) out.toList := by
      rw [hout]
      exact vals_maps (fun z : Addr × Ans × Addr => V.ref z.1) (fun z => Value.ref z.1) zs fun _ _ => rfl
    have I2 : Inv X pins σ (upd H h'.objs.size (.lst (zs.map fun z => V.ref z.1))) { s with heap := sortedHeap h2 h'.objs.size (as.map Value.ref) out, toks := tk } :=
      I1.take (h' := sortedHeap h2 h'.objs.size (as.map Value.ref) out) (t' := tk) (fun b ob _ e => e) (I.fpOk (Nat.le_of_lt hlt) hn0) ⟨hlen, out.toList, eF, rv, heF⟩
    obtain ⟨H2, I3, g, qt⟩ := takeT (P := fun b vs => ∃ (j : Nat) (e : Ans × Addr) (kq : Addr), as[j]? = some b ∧ ks[j]? = some e ∧ vs = [.ref kq, .ref e.2] ∧ H kq = some (.tup (e.1.map V.str))) I as _ I2 nd fun b hb => by
      obtain ⟨j, hj⟩ := List.mem_iff_getElem?.mp hb
      obtain ⟨e, kq, he, hkq, hg⟩ := pr j b hj
      have hbl : s.heap.objs.size ≤ b := Nat.le_of_lt (hG.above b hb)
      refine ⟨hbl, ?_, [.ref kq, .ref e.2], ⟨j, e, kq, hj, he, rfl, hkq⟩, fun H3 => ⟨(by rw [sizeLine_eq]; show 2 ≤ 16777216; omega), [Value.ref kq, Value.ref e.2], .cons rfl (.cons rfl .nil), ⟨_, kF _ _ (ne0 _ _ hg) (ka _ _ hg), rfl, 0, rfl⟩⟩⟩
      rw [upd_ne (ne0 _ _ hg)]
      exact I.hok.fresh hbl
    have gr : ∀ b o, H b = some o → H2 b = some o := fun b o e => g b o (by rw [upd_ne (ne_of_none e hn0)]; exact e)
    refine ⟨.ref h'.objs.size, H2, I3, rfl, q H2 h'.objs.size zs gr hperm (g _ _ upd_same) fun z' hz' => ?_⟩
    obtain ⟨i, i1, i2⟩ := idx z' hz'
    obtain ⟨vs, ⟨j, e, kq, j1, j2, ev, hkq⟩, hH⟩ := qt z'.1 (List.mem_of_getElem? i1)
    have eij : i = j := (List.getElem?_inj (List.getElem?_eq_some_iff.mp i1).1 nd).mp (i1.trans j1.symm)
    subst eij
    have ee : e = z'.2 := Option.some.inj (j2.symm.trans i2)
    rw [ev, ee] at hH
    rw [ee] at hkq
    exact ⟨kq, hH, gr _ _ hkq⟩
end
end K74

set_option Elab.async false
set_option linter.all false
set_option maxRecDepth 100000
set_option maxHeartbeats 4000000
/-! K74.KN2: a dict of answers, values tuples: not in, set, items, sorted. -/
namespace K74
open PySem PySem.Spec PyProof.Rows L2 L2.DX
open DT (seqAt0 seqAt0_of refOf txOf)

/-- data of numbers, texts, None and tuples, to this depth -/
def D.flatN : Nat → D → Bool
  | _, .non => true
  | _, .bl _ => true
  | _, .int _ => true
  | _, .str _ => true
  | n + 1, .tup xs => xs.all (D.flatN n)
  | _, _ => false
section
variable {X : Cx} {pins : List (Addr × Obj)} {σ : L2.St} {H : Hp} {s : Shared}
theorem nested_ofN (I : Inv X pins σ H s) : ∀ (n : Nat) {v : V} {d : D} {u : Value}, Dat X.K H v d → RelV v u → d.flatN n = true → NestedIs s.heap (nkey d) u ∧ (nkey d).depth ≤ n
  | n, _, _, u, .non, r, _ => by
    cases (show u = Value.none from r)
    exact ⟨.none, Nat.zero_le _⟩
  | n, _, _, u, .bl b, r, _ => by
    cases (show u = Value.bool b from r)
    exact ⟨.bool rfl, Nat.zero_le _⟩
  | n, _, _, u, .int i, r, _ => by
    obtain ⟨t, rfl⟩ := (show ∃ t, u = Value.int i t from r)
    exact ⟨.int i t, Nat.zero_le _⟩
  | n, _, _, u, .str x, r, _ => by
    obtain ⟨t, rfl⟩ := (show ∃ t, u = Value.str x t from r)
    exact ⟨.text x t, Nat.zero_le _⟩
  | 0, _, _, _, .lst _ _, _, h => by cases h
  | _ + 1, _, _, _, .lst _ _, _, h => by cases h
  | 0, _, _, _, .raw _, _, h => by cases h
  | _ + 1, _, _, _, .raw _, _, h => by cases h
  | 0, _, _, _, .tup _ _, _, h => by cases h
  | n + 1, _, _, u, .tup (a := a) (vs := vs) (ds := ds) hq hd, r, h => by
    have h1 : ds.all (D.flatN n) = true := h
    rw [List.all_eq_true] at h1
    cases (show u = Value.ref a from r)
    obtain ⟨its, rv, ⟨o, ho, hc, m, hd'⟩, hz⟩ := I.tuple hq
    have all : ∀ {vs : List V} {ds : List D} {us : List Value}, DatAll X.K H vs ds → Vals vs us → (∀ d ∈ ds, d.flatN n = true) → NestedAll s.heap (nkeys ds) us ∧ NestedKey.depthAll (nkeys ds) ≤ n := fun {vs ds us} hd r => by
      induction vs generalizing ds us with
      | nil =>
        cases hd
        cases r
        exact fun _ => ⟨.nil, Nat.zero_le _⟩
      | cons v vs ih =>
        cases hd with
        | cons h t =>
          cases r with
          | cons r rr =>
            intro hf
            obtain ⟨a1, a2⟩ := nested_ofN I n h r (hf _ List.mem_cons_self)
            obtain ⟨b1, b2⟩ := ih t rr fun d hd => hf d (List.mem_cons_of_mem _ hd)
            exact ⟨.cons a1 b1, Nat.max_le.mpr ⟨a2, b2⟩⟩
    obtain ⟨b1, b2⟩ := all hd rv h1
    exact ⟨.tup ho hc hd' (by simpa using b1), Nat.succ_le_succ b2⟩
end
/-- the dict's entries: the answer, where its tuple stands, where the value's stands -/
abbrev EntF := Ans × Addr × Addr
def fdX (es : List EntF) : List (NestedKey × Addr × Value) := es.map fun e => (nkey (encAns e.1), e.2.1, Value.ref e.2.2)
def fdO (P : Program) (w : World) (d : Addr) (xs : List EntF) : HO := .ext fun h => (d == sysModules) = false ∧ ∃ o es ep, h.get? d = some o ∧ o.ExactDict ∧ o.data = .dict es ep ∧ es.toList = (fdX xs).map (entryOfKey (nestedKind P w)) ∧ ((fdX xs).map (·.1)).Nodup
def FsAt (K : PySem.W.Frag) (H : Hp) (xs : List EntF) : Prop := ∀ e ∈ xs, Dat K H (.ref e.2.1) (encAns e.1) ∧ (encAns e.1).flatT 8 = true
def FdAt (P : Program) (w : World) (K : PySem.W.Frag) (H : Hp) (d : Addr) (xs : List EntF) : Prop := H d = some (fdO P w d xs) ∧ FsAt K H xs
theorem FdAt.mono {P : Program} {w : World} {K : PySem.W.Frag} {H H' : Hp} {d : Addr} {xs : List EntF} (s : Same H H') (h : FdAt P w K H d xs) : FdAt P w K H' d xs := ⟨s _ _ h.1, fun e he => ⟨(h.2 e he).1.mono s, (h.2 e he).2⟩⟩
theorem nkA_inj {a b : Ans} (h : nkey (encAns a) = nkey (encAns b)) : a = b := by
  have h1 : NestedKey.tup (nkeys (a.map D.str)) = NestedKey.tup (nkeys (b.map D.str)) := h
  injection h1 with h2
  rw [nkeys_map, nkeys_map, List.map_map, List.map_map] at h2
  have g : ∀ {xs ys : List S}, xs.map (nkey ∘ D.str) = ys.map (nkey ∘ D.str) → xs = ys := by
    intro xs
    induction xs with
    | nil => intro ys h; cases ys with | nil => rfl | cons _ _ => cases h
    | cons x r ih =>
      intro ys h
      cases ys with
      | nil => cases h
      | cons y t =>
        rw [List.map_cons, List.map_cons] at h
        injection h with h1 h2
        have h3 : NestedKey.text x = NestedKey.text y := h1
        injection h3 with h4
        rw [h4, ih h2]
  exact g h2
section
variable {X : Cx} {pins : List (Addr × Obj)} {σ : L2.St} {H : Hp} {s : Shared} {k : Nat}
theorem FsAt.is (I : Inv X pins σ H s) {xs : List EntF} (t : FsAt X.K H xs) : ∀ x ∈ fdX xs, (nestedKind X.prog X.w).is s.heap x.1 x.2.1 := fun x hx => by
  obtain ⟨e, he, rfl⟩ := List.mem_map.mp hx
  obtain ⟨h1, h2⟩ := t e he
  obtain ⟨a1, a2⟩ := nested_of I 8 h1 rfl h2
  exact ⟨a1, a2⟩
theorem fd_of (I : Inv X pins σ H s) {d : Addr} {xs : List EntF} (h : FdAt X.prog X.w X.K H d xs) : (d == sysModules) = false ∧ s.heap.DictOfH (nestedKind X.prog X.w) d (fdX xs) := by
  obtain ⟨⟨hd, o, es, ep, h1, h2, h3, h4, h5⟩, _⟩ := I.hok d _ h.1
  exact ⟨hd, o, es, ep, h1, h2, h3, h4, h.2.is I, h5⟩
theorem fd_ok {P : Program} {w : World} {H : Hp} {h : Heap} {d : Addr} {xs : List EntF} (hd : (d == sysModules) = false) (x : h.DictOfH (nestedKind P w) d (fdX xs)) : ObjOk P w H h d (fdO P w d xs) := by
  obtain ⟨o, es, ep, h1, h2, h3, h4, h5, h6⟩ := x
  refine ⟨⟨hd, o, es, ep, h1, h2, h3, h4, h6⟩, ⟨o, h1⟩, ?_⟩
  rintro g1 g2 ⟨_, o', es', ep', e1, e2, e3, e4, e5⟩ hg
  exact ⟨hd, o', es', ep', hg _ e1, e2, e3, e4, e5⟩
theorem fd_at {xs : List EntF} {a : Ans} : (atKey (fdX xs) (nkey (encAns a))).isSome = decide (a ∈ xs.map (·.1)) := by
  rw [← any_pairsH]
  unfold pairsH fdX
  induction xs with
  | nil => rfl
  | cons x r ih =>
    rw [List.map_cons, List.map_cons, List.any_cons, ih, List.map_cons]
    by_cases h : x.1 = a
    · simp [h]
    · have h' : ¬ a = x.1 := fun e => h e.symm
      have h2 : ¬ nkey (encAns x.1) = nkey (encAns a) := fun e => h (nkA_inj e)
      simp [h', h2]
/-- {}, to be such a dict -/
theorem pe_fdnew {pos : Pos} : PE X (.Dict [] [] pos) (fun σ H Q => ∀ d, H d = none → FdAt X.prog X.w X.K (upd H d (fdO X.prog X.w d [])) d [] → Q (.ref d) (upd H d (fdO X.prog X.w d []))) := ⟨fun pins s σ H Q I h =>
  wpAny_Dict_empty ⟨.ref s.heap.objs.size, _, I.laid (a := s.heap.objs.size) (o := fdO X.prog X.w s.heap.objs.size []) (t' := s.toks) (fun _ _ q => Heap.get?_push_of_some _ q) (Nat.le_refl _)
    (fd_ok (xs := []) (beq_eq_false_iff_ne.mpr (Ne.symm (Nat.ne_of_lt I.big))) (Heap.DictOfH.new s.heap)), rfl, h _ (I.hok.fresh (Nat.le_refl _)) ⟨upd_same, fun e he => by cases he⟩⟩⟩
def rNotInFd (X : Cx) : R2 := fun x y H Q => ∃ (d q : Addr) (xs : List EntF) (a : Ans), x = .ref q ∧ y = .ref d ∧ FdAt X.prog X.w X.K H d xs ∧ Dat X.K H (.ref q) (encAns a) ∧ (encAns a).flatT 8 = true ∧ Q (.bl (!decide (a ∈ xs.map (·.1)))) H
theorem op_notInFd (o : Ok X k) : OpR X (compareOp .NotIn) (rNotInFd X) := by
  intro pins s σ H x y v u Q I rx ry h
  obtain ⟨d, q, xs, a, rfl, rfl, hf, db, fb, hq⟩ := h
  cases rx
  cases ry
  obtain ⟨hd, hx⟩ := fd_of I hf
  have hu := o.units
  have hkey : (nestedKind X.prog X.w).is s.heap (nkey (encAns a)) q := by
    obtain ⟨a1, a2⟩ := nested_of I 8 db rfl fb
    exact ⟨a1, a2⟩
  refine notIn_keyed (knd := nestedKind X.prog X.w) (k := nkey (encAns a)) (show X.A.in1.units + 8 < cLine by
    have : X.A.in1.units = X.A.units + 1 := (by simp)
    omega) hkey hd ⟨_, hx, rfl⟩ ?_
  have e : (valueAt (pairsH (fdX xs)) (nkey (encAns a))).isSome = decide (a ∈ xs.map (·.1)) := by
    rw [valueAt_pairsH, Option.isSome_map, fd_at]
  rw [e]
  exact ⟨.bl _, H, I.tok _, rfl, hq⟩
def rSetFd (X : Cx) : TSet := fun o i v H Q => ∃ (d q z : Addr) (xs : List EntF) (a : Ans), o = .ref d ∧ i = .ref q ∧ v = .ref z ∧ FdAt X.prog X.w X.K H d xs ∧ Dat X.K H (.ref q) (encAns a) ∧ (encAns a).flatT 8 = true ∧ a ∉ xs.map (·.1) ∧ xs.length < sizeLine ∧ ∀ ob, (∃ φ, ob = .ext φ) → FdAt X.prog X.w X.K (upd H d ob) d (xs ++ [(a, q, z)]) → Q (upd H d ob)
theorem set_fd (o : Ok X k) : PSet X (rSetFd X) := by
  intro pins s σ H ov iv v o' i' u Q I ro ri rv h
  obtain ⟨d, q, z, xs, a, rfl, rfl, rfl, hf, db, fb, hn, hl, hq⟩ := h
  cases ro
  cases ri
  cases (show u = Value.ref z from rv)
  obtain ⟨hd, hx⟩ := fd_of I hf
  have hu := o.units
  have hkey : (nestedKind X.prog X.w).is s.heap (nkey (encAns a)) q := by
    obtain ⟨a1, a2⟩ := nested_of I 8 db rfl fb
    exact ⟨a1, a2⟩
  refine wpAny_setItem_heap (knd := nestedKind X.prog X.w) (k := nkey (encAns a)) (hsz := by rw [fdX, List.length_map]; omega) (show X.A.in1.units + 8 < cLine by
    have : X.A.in1.units = X.A.units + 1 := (by simp)
    omega) hkey hx fun h' hx' hs => ?_
  have hnone : atKey (fdX xs) (nkey (encAns a)) = none := by
    have := fd_at (xs := xs) (a := a)
    rw [decide_eq_false hn] at this
    cases q : atKey (fdX xs) (nkey (encAns a)) with
    | none => rfl
    | some z => rw [q] at this; cases this
  rw [storedH_new hnone] at hx'
  have e : fdX xs ++ [(nkey (encAns a), q, Value.ref z)] = fdX (xs ++ [(a, q, z)]) := by unfold fdX; rw [List.map_append]; rfl
  rw [e] at hx'
  have I' : Inv X pins σ (upd H d (fdO X.prog X.w d (xs ++ [(a, q, z)]))) { s with heap := h', toks := s.toks + (nestedKind X.prog X.w).draws (nkey (encAns a)) } :=
    d_write I (by rw [hf.1]; exact True.intro) hs (let ⟨o, _, _, h, _⟩ := hx'; ⟨o, h⟩) (fd_ok hd hx')
  refine ⟨_, I', hq _ ⟨_, rfl⟩ ⟨upd_same, fun e he => ?_⟩⟩
  rcases List.mem_append.mp he with h | h
  · obtain ⟨h1, h2⟩ := hf.2 e h
    exact ⟨Dat.besideX hf.1 h1, h2⟩
  · have : e = (a, q, z) := by simpa using h
    rw [this]
    exact ⟨Dat.besideX hf.1 db, fb⟩
/-- e.items(), e such a dict -/
theorem pe_fditems {o : Expr} {apos cpos : Pos} {to : TE} (ho : PE X o to) (hbase : attributeBase o "items" X.env (eval o X.env) = eval o X.env := by rfl) (hline : (apos.endLine == cpos.line) = true := by rfl) :
    PE X (.Call (.Attribute o "items" apos) [] [] cpos) (fun σ H Q => to σ H fun x H1 => ∃ d xs, x = .ref d ∧ FdAt X.prog X.w X.K H1 d xs ∧ ∀ p, H1 p = none → Q (.ref p) (upd H1 p (itemsO p d))) := by
  refine ⟨fun pins s σ H Q I h => ?_⟩
  refine wpAny_Call_method0_late hbase hline (thn (ho.run pins s σ H _ I h) fun v s1 ⟨x, H1, I1, r1, d, xs, ex, hf, q1⟩ => ?_)
  subst ex
  cases r1
  obtain ⟨hd, ob, es, ep, ho', hx', hdat, _⟩ := fd_of I1 hf
  refine ⟨"dict", "dict.items", PySem.F.plainAttrs_dict, PySem.F.slot_dict_items, PySem.F.type_dict_items, ⟨ob, ho', hx'.1⟩, fun a e => by cases e; exact ⟨ob, ho', hx'.2.1⟩, Calls.callWith_builtin rfl (PySem.evalArgs_none ?_)⟩
  refine DT.callItems (es := es) (ep := ep) hd ⟨ob, ho', hx', hdat⟩ ?_
  have hfr : H1 s1.heap.objs.size = none := I1.hok.fresh (Nat.le_refl _)
  exact ⟨.ref s1.heap.objs.size, upd H1 s1.heap.objs.size (itemsO s1.heap.objs.size d), I1.laid (t' := s1.toks) (fun b u e => Heap.get?_push_of_some _ e) (Nat.le_refl _) (itemsO_ok (Heap.get?_push_size _ rfl)), rfl, q1 _ hfr⟩
end
def rSortF (X : Cx) : List V → Hp → VK → Prop := fun vs H Q => ∃ (p a : Addr) (ks : List EntF) (M : Ans → D), vs = [.ref p] ∧ H p = some (itemsO p a) ∧ FdAt X.prog X.w X.K H a ks ∧ ks.length < 64 ∧
  (∀ e ∈ ks, Dat X.K H (.ref e.2.2) (M e.1) ∧ (M e.1).flatN 8 = true) ∧
  ∀ (H' : Hp) (l : Addr) (ps : List (Addr × EntF)), (∀ b o, H b = some o → H' b = some o) → (ps.map (·.2)).Perm ks → H l = none → H' l = some (.lst (ps.map fun z => V.ref z.1)) →
    (∀ z ∈ ps, H' z.1 = some (.tup [.ref z.2.2.1, .ref z.2.2.2])) → Q (.ref l) H'
section
variable {X : Cx}
theorem cr_sortedF (hc : X.calm = true) (hu : X.A.units + 64 < cLine) : CallR X (.builtin "sorted") (rSortF X) := by
  intro pins s σ H xs us Q I r h
  obtain ⟨p, a, ks, M, rfl, hp, hfd, h64, hv, q⟩ := h
  let ρ : Ans → Int := rankS (ks.map (·.1))
  obtain rfl := Vals.ref1 r
  have view : s.heap.IsItemsView p a := (show ObjOk X.prog X.w H s.heap p (itemsO p a) from I.hok p _ hp).1
  obtain ⟨hd, o, es, ep, ho, hx, hdat, hes, his, hn⟩ := fd_of I hfd
  have l2 : es.size = ks.length := by
    have := size_of_entries hes
    rw [this, fdX, List.length_map]
  have hh : X.A.handled = none := I.ok.hd hc
  refine DT.sortedI (es := es) (ep := ep) hh view ⟨o, ho, hx, hdat⟩ (by rw [sizeLine_eq]; omega) fun h' tk as hk hlt hl hG => ?_
  have lak : as.length = ks.length := by omega
  have nd : as.Nodup := List.Pairwise.imp (fun h => Nat.ne_of_lt h) hG.rise
  -- the pairs that were made
  have pr : ∀ (j : Nat) (b : Addr), as[j]? = some b → ∃ (e : EntF), ks[j]? = some e ∧ h'.get? b = some { cls := .type "tuple", data := .seq #[Value.ref e.2.1, Value.ref e.2.2] } := by
    intro j b hj
    obtain ⟨en, he, hg⟩ := hG.pairs j b hj
    rw [entry_at hes j, fdX, List.getElem?_map] at he
    cases hxj : ks[j]? with
    | none =>
      rw [hxj] at he
      exact nomatch (show (none : Option DictEntry) = some en from he)
    | some e =>
      rw [hxj] at he
      have een : entryOfKey (nestedKind X.prog X.w) (nkey (encAns e.1), e.2.1, Value.ref e.2.2) = en := Option.some.inj he
      refine ⟨e, rfl, ?_⟩
      rw [hg, ← een]
      all_goals rfl
  -- the heap of the sort
  have hob : (h'.push { cls := .type "list", data := .seq (as.map Value.ref).toArray }).get? h'.objs.size = some (seqObj "list" (as.map Value.ref).toArray 0) := Heap.get?_push_size _ rfl
  have kb : ∀ b o, s.heap.get? b = some o → (h'.push { cls := .type "list", data := .seq (as.map Value.ref).toArray }).get? b = some o := fun b o e => Heap.get?_push_of_some _ (hk b o e)
  have ne0 : ∀ b o, h'.get? b = some o → b ≠ h'.objs.size := fun b o e => Nat.ne_of_lt (Heap.lt_size e)
  generalize hh2 : h'.push { cls := .type "list", data := .seq (as.map Value.ref).toArray } = h2 at hob kb ⊢
  have ka : ∀ b o, h'.get? b = some o → h2.get? b = some o := fun b o e => by rw [← hh2]; exact Heap.get?_push_of_some _ e
  have pin : ∀ (j : Nat) (b : Addr), as[j]? = some b → ∃ e : EntF, ks[j]? = some e ∧ PairA (TS.midHeap h2 h'.objs.size (as.map Value.ref)) (.ref b) e.1 (nkey (M e.1)) := by
    intro j b hj
    obtain ⟨e, he, hg⟩ := pr j b hj
    obtain ⟨dk, fk⟩ := hfd.2 e (List.mem_of_getElem? he)
    obtain ⟨its, rv, ⟨ot, hot, hct, nt, hdt⟩⟩ : ∃ its : List Value, Vals (e.1.map V.str) its ∧ IsTup s.heap e.2.1 its.toArray := by
      cases dk with
      | tup h1 h2 =>
        have := h2.strs
        subst this
        obtain ⟨its, rv, ht, _⟩ := I.tuple h1
        exact ⟨its, rv, ht⟩
    obtain ⟨dv, fv⟩ := hv e (List.mem_of_getElem? he)
    obtain ⟨iv, dpv⟩ := nested_ofN I 8 dv rfl fv
    refine ⟨e, he, b, e.2.1, e.2.2, its, rfl, ⟨_, TS.midHeap_old (ne0 _ _ hg) (ka _ _ hg), rfl, 0, rfl⟩, ⟨ot, TS.midHeap_old (ne0 _ _ (hk _ _ hot)) (kb _ _ hot), hct, nt, hdt⟩, strsAre_of rv, NestedIs.at (fun c oc vs n hc hd => TS.midHeap_old (ne0 _ _ (hk _ _ hc)) (kb _ _ hc)) _ _ iv, dpv⟩
  have tx : ∀ (j : Nat) (b : Addr) (e : EntF), as[j]? = some b → ks[j]? = some e → keyAn (TS.midHeap h2 h'.objs.size (as.map Value.ref)) (.ref b) = e.1 := by
    intro j b e hj he
    obtain ⟨e', he', hp'⟩ := pin j b hj
    have ee : e' = e := Option.some.inj (he'.symm.trans he)
    rw [← ee]
    exact hp'.tx
  have at_ : ∀ v ∈ as.map Value.ref, ∃ (j : Nat) (b : Addr) (e : EntF), v = .ref b ∧ as[j]? = some b ∧ ks[j]? = some e := by
    intro v hv'
    obtain ⟨b, hb, rfl⟩ := List.mem_map.mp hv'
    obtain ⟨j, hj⟩ := List.mem_iff_getElem?.mp hb
    obtain ⟨e, he, _⟩ := pr j b hj
    exact ⟨j, b, e, rfl, hj, he⟩
  refine wpAny_call_entry PyProof.Rows.slot_list_sort ⟨_, hob, rfl⟩ PyProof.Rows.entry_list_sort
    (SK.plain_sort (s := { s with heap := h2, toks := tk }) (r := fun v => ρ (keyAn (TS.midHeap h2 h'.objs.size (as.map Value.ref)) v)) hob (by rw [List.length_map]; omega) (fun h2' Qk hQk => ?_) fun ps out o1 o2 o3 => ⟨.none, rfl, ?_⟩) (PyProof.Rows.args_list_sort _)
  · refine kind_tA (s := { s with heap := TS.midHeap h2 h'.objs.size (as.map Value.ref), toks := tk }) (ρ := ρ) (M := fun y => nkey (M y)) h2' (by show X.A.units + 1 + 1 + 8 < cLine; omega) (fun v hv' => ?_) (fun v hv' u hu' => ?_) Qk hQk
    · obtain ⟨j, b, e, rfl, hj, he⟩ := at_ v hv'
      obtain ⟨e', _, hp'⟩ := pin j b hj
      exact ⟨e'.1, hp'⟩
    · obtain ⟨j, b, e, rfl, hj, he⟩ := at_ v hv'
      obtain ⟨j2, b2, e2, rfl, hj2, he2⟩ := at_ u hu'
      show lexS (keyAn (TS.midHeap h2 h'.objs.size (as.map Value.ref)) (.ref b)) (keyAn (TS.midHeap h2 h'.objs.size (as.map Value.ref)) (.ref b2)) = decide (ρ (keyAn (TS.midHeap h2 h'.objs.size (as.map Value.ref)) (.ref b)) < ρ (keyAn (TS.midHeap h2 h'.objs.size (as.map Value.ref)) (.ref b2)))
      rw [tx j b e hj he, tx j2 b2 e2 hj2 he2]
      exact rank_lt (List.mem_map.mpr ⟨e, List.mem_of_getElem? he, rfl⟩) (List.mem_map.mpr ⟨e2, List.mem_of_getElem? he2, rfl⟩)
  · show EP X pins σ Q (.ref h'.objs.size) { s with heap := sortedHeap h2 h'.objs.size (as.map Value.ref) out, toks := tk }
    obtain ⟨zs, pz, ez⟩ := perm_lift (fun z : Addr × EntF => (Value.ref z.1, Value.ref z.1)) o2 (as.zip ks) (zip_self Value.ref as ks lak)
    have idx : ∀ z ∈ zs, ∃ j : Nat, as[j]? = some z.1 ∧ ks[j]? = some z.2 := by
      intro z' hz'
      obtain ⟨j, hj⟩ := List.mem_iff_getElem?.mp (pz.mem_iff.mp hz')
      exact ⟨j, List.getElem?_zip_eq_some.mp hj⟩
    have hout : out.toList = zs.map fun z => Value.ref z.1 := by
      rw [o1, ← ez, List.map_map]
      all_goals rfl
    have hperm : (zs.map (·.2)).Perm ks := by
      have e := pz.map (·.2)
      have m2 : (as.zip ks).map (·.2) = ks := List.map_snd_zip (by rw [lak]; exact Nat.le_refl _)
      rw [m2] at e
      exact e
    -- behind the sort
    have kF : ∀ b o, b ≠ h'.objs.size → h2.get? b = some o → (sortedHeap h2 h'.objs.size (as.map Value.ref) out).get? b = some o := fun b o hb e => (PyProof.Rows.sortedHeap_old hb (Heap.lt_size e)).trans e
    have kS : ∀ b o, s.heap.get? b = some o → (sortedHeap h2 h'.objs.size (as.map Value.ref) out).get? b = some o := fun b o e => kF b o (ne0 _ _ (hk b o e)) (kb b o e)
    obtain ⟨eF, heF⟩ := PyProof.Rows.sortedHeap_at (vs := as.map Value.ref) (out := out) hob
    have I1 : Inv X pins σ H { s with heap := sortedHeap h2 h'.objs.size (as.map Value.ref) out, toks := tk } := I.kept (t' := tk) kS
    have hn0 : H h'.objs.size = none := I.hok.fresh (Nat.le_of_lt hlt)
    have hlen : (zs.map fun z => V.ref z.1).length ≤ sizeLine := by
      have e := hperm.length_eq
      rw [List.length_map] at e
      rw [List.length_map, sizeLine_eq]
      omega
    have rv : Vals (zs.map fun z => V.ref z.1) out.toList := by
      rw [hout]
      exact vals_maps (fun z : Addr × EntF => V.ref z.1) (fun z => Value.ref z.1) zs fun _ _ => rfl
    have I2 : Inv X pins σ (upd H h'.objs.size (.lst (zs.map fun z => V.ref z.1))) { s with heap := sortedHeap h2 h'.objs.size (as.map Value.ref) out, toks := tk } :=
      I1.take (h' := sortedHeap h2 h'.objs.size (as.map Value.ref) out) (t' := tk) (fun b ob _ e => e) (I.fpOk (Nat.le_of_lt hlt) hn0) ⟨hlen, out.toList, eF, rv, heF⟩
    obtain ⟨H2, I3, g, qt⟩ := takeT (P := fun b vs => ∃ (j : Nat) (e : EntF), as[j]? = some b ∧ ks[j]? = some e ∧ vs = [.ref e.2.1, .ref e.2.2]) I as _ I2 nd fun b hb => by
      obtain ⟨j, hj⟩ := List.mem_iff_getElem?.mp hb
      obtain ⟨e, he, hg⟩ := pr j b hj
      have hbl : s.heap.objs.size ≤ b := Nat.le_of_lt (hG.above b hb)
      refine ⟨hbl, ?_, [.ref e.2.1, .ref e.2.2], ⟨j, e, hj, he, rfl⟩, fun H3 => ⟨(by rw [sizeLine_eq]; show 2 ≤ 16777216; omega), [Value.ref e.2.1, Value.ref e.2.2], .cons rfl (.cons rfl .nil), ⟨_, kF _ _ (ne0 _ _ hg) (ka _ _ hg), rfl, 0, rfl⟩⟩⟩
      rw [upd_ne (ne0 _ _ hg)]
      exact I.hok.fresh hbl
    have gr : ∀ b o, H b = some o → H2 b = some o := fun b o e => g b o (by rw [upd_ne (ne_of_none e hn0)]; exact e)
    refine ⟨.ref h'.objs.size, H2, I3, rfl, q H2 h'.objs.size zs gr hperm hn0 (g _ _ upd_same) fun z' hz' => ?_⟩
    obtain ⟨i, i1, i2⟩ := idx z' hz'
    obtain ⟨vs, ⟨j, e, j1, j2, ev⟩, hH⟩ := qt z'.1 (List.mem_of_getElem? i1)
    have eij : i = j := (List.getElem?_inj (List.getElem?_eq_some_iff.mp i1).1 nd).mp (i1.trans j1.symm)
    subst eij
    have ee : e = z'.2 := Option.some.inj (j2.symm.trans i2)
    rw [ev, ee] at hH
    exact hH

end
end K74

set_option Elab.async false
set_option linter.all false
set_option maxRecDepth 100000
set_option maxHeartbeats 4000000
/-! K74.KB4: first_runs, bindings. -/
namespace K74
open PySem PySem.Spec PyProof.Rows L2

def foldA (P : ProgD) (n : S) (u : UseD) (its : List ItemD) : List Ans := its.foldl (fun l it => if n ∈ hereM P it.st.opened then addA l (foundM P it.st n u) else l) []
theorem foldA_alone {P : ProgD} {n : S} {i : Nat} : foldA P n (useAt P n i) (walkM P) = aloneM P n i := by
  have g : ∀ (xs : List ItemD) (l : List Ans), xs.foldl (fun l it => if n ∈ hereM P it.st.opened then addA l (foundM P it.st n (useAt P n i)) else l) l = (xs.filter fun it => decide (n ∈ hereM P it.st.opened)).foldl (fun l it => addA l (foundM P it.st n (useAt P n i))) l := by
    intro xs
    induction xs with
    | nil => intro l; rfl
    | cons x r ih =>
      intro l
      rw [List.foldl_cons, List.filter_cons]
      by_cases h : n ∈ hereM P x.st.opened
      · rw [if_pos h, if_pos (decide_eq_true h), List.foldl_cons, ih]
      · rw [if_neg h, if_neg (by simpa using h), ih]
  exact g _ _
theorem foundM_len {P : ProgD} {st : PSt} {n : S} {u : UseD} : (foundM P st n u).length ≤ 64 := by
  unfold foundM
  cases h : server P (looksM P st n) u with
  | none =>
    show (noAns u).length ≤ 64
    unfold noAns
    split <;> exact (by decide : 1 ≤ 64)
  | some a =>
    obtain ⟨m, v, _, e, _⟩ := server_mem h
    show a.length ≤ 64
    rw [e]
    exact (by decide : 3 ≤ 64)
theorem walkGo_sz {P : ProgD} (W : WK P) : ∀ (n : Nat) {known : List BaseD} {found layer : List ItemD}, KInv P known → (∀ it ∈ found, it.steps.length ≤ 5698800) → (∀ it ∈ layer, PInv P it.st ∧ it.steps.length < known.length) → found.length + layer.length = known.length →
    (walkGo P n known found layer).length ≤ 5698800 ∧ ∀ it ∈ walkGo P n known found layer, it.steps.length ≤ 5698800
  | 0, known, found, layer, hk, hf, _, hc => ⟨by
      have := hk.len W
      show found.length ≤ _
      omega, hf⟩
  | n + 1, known, found, [], hk, hf, _, hc => ⟨by
      have := hk.len W
      show found.length ≤ _
      simp only [List.length_nil] at hc
      omega, hf⟩
  | n + 1, known, found, it :: r, hk, hf, hl, hc => by
    have A := AInv.layer W (k0 := known.length) (it :: r) hl (acc := (known, [])) ⟨hk, (fun _ h => by cases h), by simp, (fun _ h => by cases h)⟩
    refine walkGo_sz W n A.known (fun j hj => ?_) (fun j hj => ⟨A.later j hj, A.stl j hj⟩) ?_
    · rcases List.mem_append.mp hj with h | h
      · exact hf j h
      · have h1 := (hl j h).2
        have h2 := hk.len W
        omega
    · rw [List.length_append, A.len]
      simp only [List.length_cons] at hc ⊢
      omega
theorem walkM_sz {P : ProgD} (W : WK P) : (walkM P).length ≤ 5698800 ∧ ∀ it ∈ walkM P, it.steps.length ≤ 5698800 := by
  have I0 := PInv.st0 W
  refine walkGo_sz W _ ⟨by simp, fun b hb => ?_⟩ (fun _ h => by cases h) (fun it hit => ?_) rfl
  · have : b = baseOf (st0 P) := by simpa using hb
    rw [this]
    exact I0.uni W
  · have : it = ⟨st0 P, []⟩ := by simpa using hit
    rw [this]
    exact ⟨I0, by show 0 < 1; decide⟩
theorem flat_ans8 {a : Ans} (h : a.length ≤ 64) : (encAns a).flatT 8 = true := flat_strs' h
section
variable {P : Program} {w : World} {K : PySem.W.Frag} {mg : Str → Option Value} {base : Heap} {f : Addr} {fd : FuncData} {k : Nat} {CP CG : Addr}
abbrev s_first_runs : Stmt := top 42
theorem sc_first_runs : FnScope ["moments", "name", "i", "found", "process", "steps", "answer"] ["moments", "name", "i"] (defScope s_first_runs) := ⟨rfl, rfl, rfl, by decide +kernel, rfl, by decide +kernel, by decide +kernel⟩
def QFirst (P : Program) (w : World) (K : PySem.W.Frag) (CP CG : Addr) : List V → Hp → VK → Prop := fun vs H Q => ∃ (l : Addr) (n : S) (i : Nat) (ws : List V) (its : List ItemD) (G : ProgD) (gA : Addr) (vp vf vr : V) (lib : LibD) (u : UseD), vs = [.ref l, .str n, .int (i : Int)] ∧ H l = some (.lst ws) ∧ ItsAt K CP G H gA vp vf vr ws its ∧ (∀ it ∈ its, PInv G it.st ∧ it.steps.length ≤ 5698800) ∧ its.length ≤ 5698800 ∧ GAt K CG H gA vp vf vr G ∧ WK G ∧ libOf G n = some lib ∧ lib.uses[i]? = some u ∧
  ∀ d xs H', Same H H' → FdAt P w K H' d xs → xs.map (·.1) = foldA G n u its → (∀ e ∈ xs, ∃ m, Dat K H' (.ref e.2.2) m ∧ m.flatN 8 = true) → Q (.ref d) H'
theorem ok_first_runs (F : Fun K "first_runs" "first_runs" s_first_runs f fd) (C : Gk mg K) (m_is_there : Met P w K mg base 1 CP "is_there" (spP K (RIsThere CP))) (m_found : Met P w K mg base 5 CP "found" (spP K (RFound K CP CG))) : FnOk P w K mg base CX0 6 f fd ["moments", "name", "i"] (spG (QFirst P w K CP CG)) := by
  refine fn_W F sc_first_runs (fun vs H Q h => ?_) (fun cdv A outer s H E vs Q oo h => ?_)
  · obtain ⟨l, n, i, ws, its, G, gA, vp, vf, vr, lib, u, rfl, _⟩ := h
    rfl
  · obtain ⟨l, n, i, ws, its, G, gA, vp, vf, vr, lib, u, rfl, hl, hits, hinv, hil, g, W, hlib, hu, hQ⟩ := h
    refine ws_set 3 oo (we_of pe_fdnew fun d hd hfd => ?_)
    have s0 : Same H (hide (upd H d (fdO P w d [])) d) := fun x o e => by
      rw [hide_at (ne_of_none e hd), upd_ne (ne_of_none e hd)]
      exact e
    let J : Nat → L2.St → Hp → Prop := fun j σ H' => ∃ (x4 x5 x6 : Option V) (xs : List EntF), σ = [some (.ref l), some (.str n), some (.int (i : Int)), some (.ref d), x4, x5, x6] ∧ Same H (hide H' d) ∧ FdAt P w K H' d xs ∧ xs.map (·.1) = foldA G n u (its.take j) ∧ xs.length ≤ j ∧ ∀ e ∈ xs, ∃ m, Dat K (hide H' d) (.ref e.2.2) m ∧ m.flatN 8 = true
    refine ws_forL oo PassesOwn.never (we_var 0 rfl ⟨l, ws, J, rfl, ⟨none, none, none, [], rfl, s0, hfd, rfl, Nat.zero_le _, fun e he => by cases he⟩, ?_, ?_, ?_⟩)
    · rintro j σ H' _ ⟨x4, x5, x6, xs, rfl, sH, _⟩
      exact SqL.of (hide_same _ _ _ _ (sH _ _ hl))
    · rintro j x σ H1 hx ⟨x4, x5, x6, xs, rfl, sH, hf1, hkeys, hxl, hvals⟩
      obtain ⟨it, hit, q, a, r, us, rfl, hq, hus, hp, eG, ep, ef, er⟩ := (hits.mono sH).get hx
      obtain ⟨I, hsl⟩ := hinv it (List.mem_of_getElem? hit)
      have hjl := (List.getElem?_eq_some_iff.mp hit).1
      have sH1 : Same H H1 := sH.trans (hide_same _ _)
      have hp1 := hp.mono (hide_same _ _)
      have g1 : GAt K CG H1 r.G r.vp r.vf r.vr G := by rw [eG, ep, ef, er]; exact g.mono sH1
      have hstep : foldA G n u (its.take (j + 1)) = if n ∈ hereM G it.st.opened then addA (foldA G n u (its.take j)) (foundM G it.st n u) else foldA G n u (its.take j) := by
        unfold foldA
        rw [take_len hit, List.foldl_append]
        rfl
      refine wg_two 4 5 oo (Same.seqT (hide_same _ _) hq) ?_
      refine ws_ifE (et_val (ee_meth m_is_there oo (by decide) (ee_var 4 rfl) (hp1.at rfl) (ea_cons (ee_var 1 rfl) ea_nil) (fun _ s => ⟨a, r, it.st, _, n, hp1.mono s, rfl, rfl⟩))) (ρ := [none, some (.str n), none, none, some (.raw (.ref a))]) (.skip (.cons (.str n) (.skip (.skip (.cons (.raw _) .nil))))) (fun hb H2 s2 => ?_) (fun hb H2 s2 => ?_)
      · have hn : n ∈ hereM G it.st.opened := of_decide_eq_true hb
        rw [if_pos hn] at hstep
        have hp2 := hp1.mono s2
        have g2 := g1.mono s2
        have sH2 : Same H (hide H2 d) := sH.trans (hide_mono s2)
        refine ws_set 6 oo (we_ee (ee_meth m_found oo (by decide) (ee_var 4 rfl) (hp2.at rfl) (ea_cons (ee_var 1 rfl) (ea_cons (ee_var 2 rfl) ea_nil)) (fun _ s => ⟨a, r, it.st, _, n, G, i, lib, u, hp2.mono s, g2.mono s, rfl, rfl, hn, hlib, hu, W.wf, W.sz, I.pz W⟩)) (ρ := [none, some (.str n), some (.int (i : Int)), none, some (.raw (.ref a))]) (.skip (.cons (.str n) (.cons (.int _) (.skip (.cons (.raw _) .nil))))) fun va H3 s3 dva => ?_)
        obtain ⟨qa, rfl⟩ : ∃ q, va = .ref q := by cases dva with | tup h t => exact ⟨_, rfl⟩
        have fa := flat_ans8 (foundM_len (P := G) (st := it.st) (n := n) (u := u))
        have hf3 := (hf1.mono s2).mono s3
        have hv3 : ∀ e ∈ xs, ∃ m, Dat K (hide H3 d) (.ref e.2.2) m ∧ m.flatN 8 = true := fun e he => let ⟨m, h1, h2⟩ := hvals e he; ⟨m, h1.mono (hide_mono (s2.trans s3)), h2⟩
        refine ws_ifM (J (j + 1)) (wt_of (pt_cmpR (op_notInFd oo) pe_w pe_w rfl) (we_var 6 rfl (we_var 3 rfl ⟨d, qa, xs, _, rfl, rfl, hf3, dva, fa, _, rfl, ?_⟩))) (fun σ' H' h => ws_nil (ws_nil h))
        rw [hkeys]
        by_cases hm : foundM G it.st n u ∈ foldA G n u (its.take j)
        · rw [decide_eq_true hm]
          refine iteF (ws_nil ⟨_, _, _, xs, rfl, sH2.trans (hide_mono s3), hf3, ?_, Nat.le_succ_of_le hxl, hv3⟩)
          rw [hstep, hkeys]
          unfold addA
          rw [if_pos hm]
        · rw [decide_eq_false hm]
          have hus3 := ((hus.mono (hide_same _ _)).mono s2).mono s3
          refine iteT (ws_asg (we_ee (ee_op (od_addT (xs := it.steps.map encStep) (ys := [.tup [.str ("call" : S), .str n, .int (i : Int)]]) ?_) (ee_var 5 rfl) (ee_tup (ea_cons (ee_tup (ea_cons (ee_gc C.CALL) (ea_cons (ee_var 1 rfl) (ea_cons (ee_var 2 rfl) ea_nil)))) ea_nil))) (ρ := [none, some (.str n), some (.int (i : Int)), none, none, some (.tup (it.steps.map encStep))]) (.skip (.cons (.str n) (.cons (.int _) (.skip (.skip (.cons hus3 .nil)))))) fun vz H4 s4 dvz => ?_))
          · rw [List.length_map]
            simp only [List.length_cons, List.length_nil]
            exact Nat.le_trans (by omega : _ ≤ 5698801) (by decide)
          · obtain ⟨qz, rfl⟩ : ∃ q, vz = .ref q := by cases dvz with | tup h t => exact ⟨_, rfl⟩
            have hf4 := hf3.mono s4
            refine wg_of (pg_sub pe_w pe_w (set_fd oo)) (we_var 3 rfl (we_var 6 rfl ⟨d, qa, qz, xs, _, rfl, rfl, rfl, hf4, dva.mono s4, fa, by rw [hkeys]; exact hm, ?_, fun ob ⟨φ, hob⟩ hf5 => ?_⟩))
            · exact Nat.lt_of_le_of_lt (by omega : _ ≤ 5698800) (by decide)
            · have e5 : hide (upd H4 d ob) d = hide H4 d := hide_upd _ _ _
              have dz : Dat K (hide H4 d) (.ref qz) (.tup (it.steps.map encStep ++ [.tup [.str ("call" : S), .str n, .int (i : Int)]])) := by
                refine Dat.keep2 (fun b vs e => ?_) (fun b vs e => ?_) dvz
                · have ne : b ≠ d := fun z => by subst z; rw [hf4.1] at e; cases e
                  rw [hide_at ne]
                  exact e
                · rcases e with e | e
                  · have ne : b ≠ d := fun z => by
                      subst z
                      rcases e with e | ⟨_, e⟩ <;> (rw [hf4.1] at e; cases e)
                    rcases e with e | ⟨ob', e⟩
                    · exact .inl (.inl (by rw [hide_at ne]; exact e))
                    · exact .inl (.inr ⟨ob', by rw [hide_at ne]; exact e⟩)
                  · exact .inr e
              refine ws_nil ⟨_, _, _, xs ++ [(foundM G it.st n u, qa, qz)], rfl, ?_, hf5, ?_, ?_, ?_⟩
              · rw [e5]
                exact (sH2.trans (hide_mono s3)).trans (hide_mono s4)
              · rw [hstep, List.map_append, hkeys]
                unfold addA
                rw [if_neg hm]
                rfl
              · rw [List.length_append]
                exact Nat.succ_le_succ hxl
              · intro e he
                rw [e5]
                rcases List.mem_append.mp he with h | h
                · obtain ⟨m, h1, h2⟩ := hv3 e h
                  exact ⟨m, h1.mono (hide_mono s4), h2⟩
                · have : e = (foundM G it.st n u, qa, qz) := by simpa using h
                  rw [this]
                  refine ⟨_, dz, ?_⟩
                  show List.all _ (D.flatN 7) = true
                  rw [List.all_append, Bool.and_eq_true]
                  refine ⟨List.all_eq_true.mpr fun z hz => ?_, rfl⟩
                  obtain ⟨y, _, rfl⟩ := List.mem_map.mp hz
                  cases y <;> rfl
      · have hn : n ∉ hereM G it.st.opened := of_decide_eq_false hb
        rw [if_neg hn] at hstep
        exact ws_nil (ws_nil ⟨_, _, _, xs, rfl, sH.trans (hide_mono s2), hf1.mono s2, by rw [hstep, hkeys], Nat.le_succ_of_le hxl, fun e he => let ⟨m, h1, h2⟩ := hvals e he; ⟨m, h1.mono (hide_mono s2), h2⟩⟩)
    · rintro σ H1 ⟨x4, x5, x6, xs, rfl, sH, hf1, hkeys, hxl, hvals⟩
      rw [hits.length, List.take_length] at hkeys
      exact ws_ret (we_var 3 rfl (hQ d xs H1 (sH.trans (hide_same _ _)) hf1 hkeys fun e he => let ⟨m, h1, h2⟩ := hvals e he; ⟨m, h1.mono (hide_same _ _), h2⟩))
/-! ### bindings -/
theorem choose_M {K : PySem.W.Frag} {H : Hp} : ∀ (xs : List EntF), (xs.map (·.1)).Nodup → (∀ e ∈ xs, ∃ m, Dat K H (.ref e.2.2) m ∧ m.flatN 8 = true) → ∃ M : Ans → D, ∀ e ∈ xs, Dat K H (.ref e.2.2) (M e.1) ∧ (M e.1).flatN 8 = true
  | [], _, _ => ⟨fun _ => .non, fun e he => by cases he⟩
  | x :: r, hn, h => by
    rw [List.map_cons, List.nodup_cons] at hn
    obtain ⟨M, hM⟩ := choose_M r hn.2 fun e he => h e (List.mem_cons_of_mem _ he)
    obtain ⟨m, h1, h2⟩ := h x List.mem_cons_self
    refine ⟨fun a => if a = x.1 then m else M a, fun e he => ?_⟩
    rcases List.mem_cons.mp he with rfl | he
    · simp only [if_true]
      exact ⟨h1, h2⟩
    · have ne : e.1 ≠ x.1 := fun z => hn.1 (by rw [← z]; exact List.mem_map.mpr ⟨e, he, rfl⟩)
      simp only [if_neg ne]
      exact hM e he
theorem foldA_nodup {P : ProgD} {n : S} {u : UseD} {its : List ItemD} : (foldA P n u its).Nodup := by
  have g : ∀ (its : List ItemD) (l : List Ans), l.Nodup → (its.foldl (fun l it => if n ∈ hereM P it.st.opened then addA l (foundM P it.st n u) else l) l).Nodup := by
    intro its
    induction its with
    | nil => intro l h; exact h
    | cons x r ih =>
      intro l h
      refine ih _ ?_
      show (if n ∈ hereM P x.st.opened then addA l (foundM P x.st n u) else l).Nodup
      split
      · unfold addA
        split
        · exact h
        · rename_i hn
          rw [List.nodup_append]
          refine ⟨h, by simp, ?_⟩
          intro a ha b hb e
          have : b = foundM P x.st n u := by simpa using hb
          subst this
          subst e
          exact hn ha
      · exact h
  exact g its [] List.nodup_nil
abbrev s_bindings : Stmt := top 43
theorem sc_bindings : FnScope ["program", "name", "i"] ["program", "name", "i"] (defScope s_bindings) := ⟨rfl, rfl, rfl, by decide +kernel, rfl, by decide +kernel, by decide +kernel⟩
/-- pairs (answer, steps): the answers -/
def QBind (K : PySem.W.Frag) : List V → Hp → VK → Prop := fun vs H Q => ∃ (v : V) (n : S) (i : Nat) (G : ProgD) (lib : LibD) (u : UseD), vs = [v, .str n, .int (i : Int)] ∧ Dat K H v (encProg G) ∧ WK G ∧ libOf G n = some lib ∧ lib.uses[i]? = some u ∧
  ∀ l ws H', Same H H' → H l = none → H' l = some (.lst ws) → (∃ as : List Ans, as.Perm (foldA G n u (walkM G)) ∧ ∃ ms : List V, ws.length = as.length ∧ DatAll K H' ws ((as.zip ms).map fun z => .tup [encAns z.1, .raw z.2]) ∧ ms.length = as.length) → Q (.ref l) H'
theorem foldA_mem {P : ProgD} {n : S} {u : UseD} {a : Ans} {its : List ItemD} (h : a ∈ foldA P n u its) : ∃ it ∈ its, a = foundM P it.st n u := by
  have g : ∀ (its : List ItemD) (l : List Ans), a ∈ its.foldl (fun l it => if n ∈ hereM P it.st.opened then addA l (foundM P it.st n u) else l) l → a ∈ l ∨ ∃ it ∈ its, a = foundM P it.st n u := by
    intro its
    induction its with
    | nil => intro l h; exact .inl h
    | cons x r ih =>
      intro l h
      rcases ih _ h with h | ⟨it, h1, h2⟩
      · have h' : a ∈ (if n ∈ hereM P x.st.opened then addA l (foundM P x.st n u) else l) := h
        split at h'
        · rcases addA_mem.mp h' with h | h
          · exact .inl h
          · exact .inr ⟨x, List.mem_cons_self, h⟩
        · exact .inl h'
      · exact .inr ⟨it, List.mem_cons_of_mem _ h1, h2⟩
  rcases g its [] h with h | h
  · cases h
  · exact h
theorem foldA_len {P : ProgD} (W : WK P) {n : S} {u : UseD} : (foldA P n u (walkM P)).length ≤ 5 := by
  have := nodup_lenG (foldA_nodup (P := P) (n := n) (u := u) (its := walkM P)) (m := noAns u :: (names P).filterMap (ansOf P u)) fun a ha => by
    obtain ⟨it, hit, rfl⟩ := foldA_mem ha
    have I := walkM_inv W it hit
    unfold foundM
    cases hq : server P (looksM P it.st n) u with
    | none => exact List.mem_cons_self
    | some b =>
      obtain ⟨m, v, h1, _, h3⟩ := server_mem hq
      exact List.mem_cons_of_mem _ (List.mem_filterMap.mpr ⟨m, looksM_names W.wf (I.pz W) m h1, h3⟩)
  have h2 := List.length_filterMap_le (ansOf P u) (names P)
  have h3 := W.libs
  rw [List.length_cons] at this
  have h4 : (names P).length = P.libs.length := by rw [names, List.length_map]
  omega
theorem ok_bindings {ka kw : Nat} (F : Fun K "bindings" "bindings" s_bindings f fd) (T : Gb mg) (hk : ka ≤ k ∧ kw ≤ k ∧ 6 ≤ k) (c_as : Cal P w K mg base ka "as_tuples" (spP K (RAs 5))) (c_use_at : Cal P w K mg base 3 "use_at" (spP K RUseAt)) (c_walk : CalD P w K mg base kw "walk" [.non] (spG (QWalk K CP CG))) (c_first_runs : Cal P w K mg base 6 "first_runs" (spG (QFirst P w K CP CG))) : FnOk P w K mg base CX0 (k + 1) f fd ["program", "name", "i"] (spG (QBind K)) := by
  refine fn_W F sc_bindings (fun vs H Q h => ?_) (fun cdv A outer s H E vs Q oo h => ?_)
  · obtain ⟨v, n, i, G, lib, u, rfl, _⟩ := h
    rfl
  · obtain ⟨v, n, i, G, lib, u, rfl, dv, W, hlib, hu, hQ⟩ := h
    refine ws_set 0 oo (we_ee (ee_call c_as oo hk.1 (ea_cons (ee_var 0 rfl) ea_nil) (fun _ _ => ⟨rfl, flat_prog W.sz⟩)) (ρ := [some (encProg G), some (.str n), some (.int (i : Int))]) (.cons dv (.cons (.str n) (.cons (.int _) .nil))) fun v1 H1 s1 dv1 => ?_)
    refine ws_expr (we_ee (ee_call c_use_at oo (by omega) (ea_cons (ee_var 0 rfl) (ea_cons (ee_var 1 rfl) (ea_cons (ee_var 2 rfl) ea_nil))) (fun _ _ => ⟨G, n, lib, i, u, rfl, rfl, hlib, hu, W.sz.libs⟩)) (ρ := [some (encProg G), some (.str n), some (.int (i : Int))]) (.cons dv1 (.cons (.str n) (.cons (.int _) .nil))) fun _ H2 s2 _ => ?_)
    have dv2 := dv1.mono s2
    obtain ⟨z1, z2⟩ := walkM_sz W
    refine ws_ret (we_of (pe_callB (cr_sortedF oo.calm oo.units) rfl T.sorted (by decide +kernel) (pa_cons (pe_fditems pe_w) pa_nil)) ?_)
    refine we_cal c_first_runs oo hk.2.2 (wa_cons (we_calD c_walk oo hk.2.1 (wa_cons (we_var 0 rfl (wa_nil ⟨v1, G, rfl, dv2, W, fun l ws gA vp vf vr H3 s3 fl hl3 hits g3 => wa_cons (we_var 1 rfl (wa_cons (we_var 2 rfl (wa_nil ?_))))⟩)))))
    refine ⟨l, n, i, ws, walkM G, G, gA, vp, vf, vr, lib, u, rfl, hl3, hits, (fun it hit => ⟨walkM_inv W it hit, z2 it hit⟩), z1, g3, W, hlib, hu, fun d xs H4 s4 hf4 hkeys hvals => ?_⟩
    obtain ⟨M, hM⟩ := choose_M xs (by rw [hkeys]; exact foldA_nodup) hvals
    refine ⟨d, xs, rfl, hf4, fun p hp => ⟨p, d, xs, M, rfl, upd_same, hf4.mono (Same.new hp), ?_, fun e he => ⟨(hM e he).1.mono (Same.new hp), (hM e he).2⟩, fun H5 l5 ps s5 hperm hl50 hl5 hps => ?_⟩⟩
    · have h1 := foldA_len W (n := n) (u := u)
      rw [← hkeys, List.length_map] at h1
      omega
    · have sAll : Same H H5 := (((s1.trans s2).trans s3).trans s4).trans ((Same.new hp).trans s5)
      have hperm2 : (ps.map (fun z => z.2.1)).Perm (foldA G n u (walkM G)) := by
        have := hperm.map (·.1)
        rw [hkeys, List.map_map] at this
        exact this
      refine hQ l5 _ H5 sAll ((((s1.trans s2).trans s3).trans (s4.trans (Same.new hp))).free hl50) hl5 ⟨ps.map (fun z => z.2.1), hperm2, ps.map (fun z => V.ref z.2.2.2), by simp, ?_, by simp⟩
      have hk5 : ∀ z ∈ ps, Dat K H5 (.ref z.2.2.1) (encAns z.2.1) := fun z hz => by
        have hm : z.2 ∈ xs := hperm.mem_iff.mp (List.mem_map.mpr ⟨z, hz, rfl⟩)
        exact ((hf4.2 z.2 hm).1.mono (Same.new hp)).mono s5
      clear hperm hperm2 hl5
      induction ps with
      | nil => exact .nil
      | cons z r ih =>
        refine .cons (.tup (.inl (.inl (hps z List.mem_cons_self))) (.cons (hk5 z List.mem_cons_self) (.cons (.raw _) .nil))) (ih (fun y hy => hps y (List.mem_cons_of_mem _ hy)) fun y hy => hk5 y (List.mem_cons_of_mem _ hy))
end
end K74

set_option Elab.async false
set_option linter.all false
set_option maxRecDepth 100000
set_option maxHeartbeats 4000000
/-! K74.KT1: a Trial as it stands; told_inside, told_alone. -/
namespace K74
open PySem PySem.Spec PyProof.Rows L2

def aloneG (G : ProgD) (n : S) (i : Nat) : List Ans := aloneM (withPre G []) n i
abbrev EntW := S × Nat × Addr
def keyW (e : EntW) : List L2.Key := [Sum.inr e.1, Sum.inl (e.2.1 : Int)]
def entW (e : EntW) : List L2.Key × V := (keyW e, V.ref e.2.2)
def fsT (vp : V) (wA : Addr) : List (S × V) := [("own_program", vp), ("own_walked", .ref wA)]
structure ClsT (K : PySem.W.Frag) (C : Addr) : Prop where
  cls : Cls K C
  program : NoAttr K C "own_program"
  walked : NoAttr K C "own_walked"
/-- the trial at t; its walked runs at wA -/
structure TAt (K : PySem.W.Frag) (CT : Addr) (H : Hp) (t wA : Addr) (G : ProgD) : Prop where
  ins : ∃ dx vp, H t = some (.ins CT dx (fsT vp wA)) ∧ Dat K (hide H wA) vp (encProg G)
  walked : ∃ es : List EntW, H wA = some (.dT (es.map entW)) ∧ (es.map fun e => (e.1, e.2.1)).Nodup ∧ ∀ e ∈ es, e.1 ∈ names G ∧ e.2.1 < 8 ∧ ∃ (ws : List V) (as : List Ans), hide H wA e.2.2 = some (.lst ws) ∧ DatAll K (hide H wA) ws (as.map encAns) ∧ as.length ≤ 5 ∧ ∀ a, a ∈ as ↔ a ∈ aloneG G e.1 e.2.1
theorem TAt.mono {K : PySem.W.Frag} {CT : Addr} {H H' : Hp} {t wA : Addr} {G : ProgD} (s : Same H H') (x : TAt K CT H t wA G) : TAt K CT H' t wA G := by
  obtain ⟨dx, vp, h1, h2⟩ := x.ins
  obtain ⟨es, w1, w2, w3⟩ := x.walked
  refine ⟨⟨dx, vp, s _ _ h1, h2.mono (hide_mono s)⟩, es, s _ _ w1, w2, fun e he => ?_⟩
  obtain ⟨a1, a2, ws, as, a3, a4, a5⟩ := w3 e he
  exact ⟨a1, a2, ws, as, hide_mono s _ _ a3, a4.mono (hide_mono s), a5⟩
/-- only the walked runs may have changed; what is new among them is a fresh list -/
structure TStep (K : PySem.W.Frag) (CT : Addr) (H : Hp) (t wA : Addr) (G : ProgD) (H' : Hp) : Prop where
  at_ : TAt K CT H' t wA G
  same : Same (hide H wA) (hide H' wA)
  own : ∀ kvs, H' wA = some (.dT kvs) → ∀ kv ∈ kvs, ∀ l, kv.2 = .ref l → (∃ kvs0, H wA = some (.dT kvs0) ∧ kv ∈ kvs0) ∨ H l = none
theorem TStep.refl {K : PySem.W.Frag} {CT : Addr} {H : Hp} {t wA : Addr} {G : ProgD} (x : TAt K CT H t wA G) : TStep K CT H t wA G H := ⟨x, Same.refl _, fun kvs e kv h _ _ => .inl ⟨kvs, e, h⟩⟩
theorem TStep.grow {K : PySem.W.Frag} {CT : Addr} {H H' : Hp} {t wA : Addr} {G : ProgD} (x : TAt K CT H t wA G) (s : Same H H') : TStep K CT H t wA G H' := ⟨x.mono s, hide_mono s, fun kvs e kv h _ _ => .inl ⟨kvs, by
  obtain ⟨es, w1, _⟩ := x.walked
  have := s _ _ w1
  rw [e] at this
  rw [this]
  exact w1, h⟩⟩
theorem TStep.trans {K : PySem.W.Frag} {CT : Addr} {H H1 H2 : Hp} {t wA : Addr} {G : ProgD} (x : TAt K CT H t wA G) (a : TStep K CT H t wA G H1) (b : TStep K CT H1 t wA G H2) : TStep K CT H t wA G H2 := ⟨b.at_, a.same.trans b.same, fun kvs e kv h l hl => by
  rcases b.own kvs e kv h l hl with ⟨kvs0, e0, h0⟩ | h0
  · exact a.own kvs0 e0 kv h0 l hl
  · obtain ⟨es, w1, _⟩ := a.at_.walked
    have ne : l ≠ wA := fun z => by rw [z, w1] at h0; cases h0
    refine .inr ?_
    cases hc : H l with
    | none => rfl
    | some o =>
      have := a.same l o (by rw [hide_at ne]; exact hc)
      rw [hide_at ne, h0] at this
      cases this⟩
theorem val_none {es : List EntW} {n : S} {i : Nat} (h : (n, i) ∉ es.map fun e => (e.1, e.2.1)) : valV (es.map entW) [Sum.inr n, Sum.inl (i : Int)] = none := by
  induction es with
  | nil => rfl
  | cons e r ih =>
    rw [List.map_cons, List.mem_cons, not_or] at h
    rw [List.map_cons, valV_neg (fun z => h.1 (by
      have z' : [Sum.inr e.1, Sum.inl (e.2.1 : Int)] = ([Sum.inr n, Sum.inl (i : Int)] : List L2.Key) := z
      injection z' with z1 z2
      injection z2 with z3 _
      injection z1 with z4
      injection z3 with z5
      rw [z4, Int.ofNat_inj.mp z5]))]
    exact ih h.2
theorem val_some {es : List EntW} {n : S} {i : Nat} (h : (n, i) ∈ es.map fun e => (e.1, e.2.1)) : ∃ e ∈ es, e.1 = n ∧ e.2.1 = i ∧ valV (es.map entW) [Sum.inr n, Sum.inl (i : Int)] = some (.ref e.2.2) := by
  induction es with
  | nil => cases h
  | cons e r ih =>
    by_cases hk : keyW e = [Sum.inr n, Sum.inl (i : Int)]
    · refine ⟨e, List.mem_cons_self, ?_, ?_, by rw [List.map_cons, valV_pos hk]; rfl⟩
      · have z' : [Sum.inr e.1, Sum.inl (e.2.1 : Int)] = ([Sum.inr n, Sum.inl (i : Int)] : List L2.Key) := hk
        injection z' with z1 z2
        injection z1
      · have z' : [Sum.inr e.1, Sum.inl (e.2.1 : Int)] = ([Sum.inr n, Sum.inl (i : Int)] : List L2.Key) := hk
        injection z' with z1 z2
        injection z2 with z3 _
        injection z3 with z5
        exact Int.ofNat_inj.mp z5
    · rw [List.map_cons, List.mem_cons] at h
      have h' : (n, i) ∈ r.map fun e => (e.1, e.2.1) := h.resolve_left fun z => hk (by
        injection z with z1 z2
        unfold keyW
        rw [z1, z2])
      obtain ⟨e', h1, h2, h3, h4⟩ := ih h'
      exact ⟨e', List.mem_cons_of_mem _ h1, h2, h3, by rw [List.map_cons, valV_neg hk]; exact h4⟩
theorem put_new {es : List EntW} {n : S} {i : Nat} {l : Addr} (h : (n, i) ∉ es.map fun e => (e.1, e.2.1)) : putK (es.map entW) [Sum.inr n, Sum.inl (i : Int)] (.ref l) = (es ++ [(n, i, l)]).map entW := by
  unfold putK
  rw [valV_any, val_none h, List.map_append]
  rfl

section
variable {P : Program} {w : World} {K : PySem.W.Frag} {mg : Str → Option Value} {base : Heap} {f : Addr} {fd : FuncData} {k : Nat} {CT : Addr}
abbrev s_told_alone : Stmt := inClass (top 51) 2
theorem sc_told_alone : FnScope ["self", "name", "i", "found", "answer", "steps"] ["self", "name", "i"] (defScope s_told_alone) := ⟨rfl, rfl, rfl, by decide +kernel, rfl, by decide +kernel, by decide +kernel⟩
def QAlone (K : PySem.W.Frag) (CT : Addr) : List V → Hp → VK → Prop := fun vs H Q => ∃ (t wA : Addr) (G : ProgD) (n : S) (i : Nat) (lib : LibD) (u : UseD), vs = [.ref t, .str n, .int (i : Int)] ∧ TAt K CT H t wA G ∧ WK (withPre G []) ∧ SZ G ∧ libOf G n = some lib ∧ lib.uses[i]? = some u ∧
  ∀ (l : Addr) (ws : List V) (as : List Ans) (H' : Hp), TStep K CT H t wA G H' → hide H' wA l = some (.lst ws) → DatAll K (hide H' wA) ws (as.map encAns) → as.length ≤ 5 → (∀ a, a ∈ as ↔ a ∈ aloneG G n i) → Q (.ref l) H'
theorem libOf_mem {P : ProgD} {n : S} {l : LibD} (h : libOf P n = some l) : l ∈ P.libs ∧ l.name = n := by
  unfold libOf at h
  have := List.mem_of_mem_head? (show l ∈ _ from h)
  obtain ⟨h1, h2⟩ := List.mem_filter.mp this
  exact ⟨h1, of_decide_eq_true h2⟩
theorem ok_told_alone {kb kw : Nat} (F : Fun K "told_alone" "Trial.told_alone" s_told_alone f fd) (c : ClsT K CT) (hk : kb ≤ k ∧ kw ≤ k) (c_bindings : Cal P w K mg base kb "bindings" (spG (QBind K))) (c_with_preload : Cal P w K mg base kw "with_preload" (spP K RWithPre)) : FnOk P w K mg base CX0 (k + 1) f fd ["self", "name", "i"] (spG (QAlone K CT)) := by
  refine fn_W F sc_told_alone (fun vs H Q h => ?_) (fun cdv A outer s H E vs Q oo h => ?_)
  · obtain ⟨t, wA, G, n, i, lib, u, rfl, _⟩ := h
    rfl
  · obtain ⟨t, wA, G, n, i, lib, u, rfl, x, W, hz, hlib, hu, hQ⟩ := h
    have hi8 : i < 8 := by
      have h1 := (List.getElem?_eq_some_iff.mp hu).1
      have h2 := hz.uses lib (libOf_mem hlib).1
      omega
    have hnm : n ∈ names G := List.mem_map.mpr ⟨lib, (libOf_mem hlib).1, (libOf_mem hlib).2⟩
    have hlib' : libOf (withPre G []) n = some lib := hlib
    have huse : useAt (withPre G []) n i = u := by
      unfold useAt
      rw [hlib']
      show lib.uses.getD i _ = u
      rw [List.getD_eq_getElem?_getD, hu]
      rfl
    -- behind the if: the run is there
    let M : L2.St → Hp → Prop := fun σ H' => ∃ (x3 x4 x5 : Option V) (es : List EntW), σ = [some (.ref t), some (.str n), some (.int (i : Int)), x3, x4, x5] ∧ TStep K CT H t wA G H' ∧ H' wA = some (.dT (es.map entW)) ∧ (n, i) ∈ (es.map fun e => (e.1, e.2.1)) ∧
      ∀ e ∈ es, ∃ (ws : List V) (as : List Ans), hide H' wA e.2.2 = some (.lst ws) ∧ DatAll K (hide H' wA) ws (as.map encAns) ∧ as.length ≤ 5 ∧ ∀ a, a ∈ as ↔ a ∈ aloneG G e.1 e.2.1
    obtain ⟨dx, vp, hin, dvp⟩ := x.ins
    obtain ⟨es, hw1, hw2, hw3⟩ := x.walked
    have hkey : ∀ {H' : Hp} {Q' : VK}, (∀ q, H' q = none → Q' (.ref q) (upd H' q (.tup [.str n, .int (i : Int)]))) → ∀ {x3 x4 x5 : Option V} {k1 : Nat} {p1 p2 p3 : Pos}, WE (cxOf CX0 P w K mg base ["self", "name", "i", "found", "answer", "steps"] "Trial.told_alone" (defScope s_told_alone) f cdv A outer s H E).nox (.Tuple [.Name "name" p1, .Name "i" p2] k1 p3) [some (.ref t), some (.str n), some (.int (i : Int)), x3, x4, x5] H' Q' := by
      intro H' Q' hq x3 x4 x5 k1 p1 p2 p3
      exact we_of (pe_tup pa_w) (wa_cons (we_var 1 rfl (wa_cons (we_var 2 rfl (wa_nil ⟨by show 2 ≤ sizeLine; decide, fun q h => hq q h⟩)))))
    refine ws_ifM M (wt_of (pt_cmp (pc_dnotin (hu_of oo.room) pe_w pe_w) rfl) (hkey fun q1 hq1 => ?_)) ?_
    · have s1 : Same H (upd H q1 (.tup [.str n, .int (i : Int)])) := Same.new hq1
      have hw1' := s1 _ _ hw1
      refine we_vf 0 rfl c.cls c.walked (s1 _ _ hin) rfl ⟨wA, _, rfl, DGet.t (k := [Sum.inr n, Sum.inl (i : Int)]) hw1' upd_same, _, rfl, ?_⟩
      generalize hH1 : upd H q1 (.tup [.str n, .int (i : Int)]) = H1 at s1 hw1' ⊢
      by_cases hm : (n, i) ∈ es.map fun e => (e.1, e.2.1)
      · obtain ⟨e, he, e1, e2, hv⟩ := val_some hm
        rw [hv]
        refine iteF (ws_nil ⟨_, _, _, es, rfl, TStep.grow x s1, hw1', hm, fun e he => ?_⟩)
        obtain ⟨_, _, ws, as, a3, a4, a5⟩ := hw3 e he
        exact ⟨ws, as, hide_mono s1 _ _ a3, a4.mono (hide_mono s1), a5⟩
      · rw [val_none hm]
        refine iteT ?_
        have dvp1 : Dat K H1 vp (encProg G) := (dvp.mono (hide_same _ _)).mono s1
        -- found = bindings(with_preload(..), name, i)
        refine ws_set 3 oo (we_cal c_bindings oo hk.1 (wa_cons (we_ee (ee_call c_with_preload oo hk.2 (ea_cons (ee_fld (C := CT) (ee_var 0 rfl) ⟨dx, _, vp, s1 _ _ hin, c.cls, c.program, rfl, dvp1⟩) (ea_cons (ee_tup ea_nil) ea_nil)) (fun _ _ => ⟨G, [], rfl, rfl, hz⟩)) (ρ := [some (.raw (.ref t))]) (.cons (.raw _) .nil) fun v2 H2 s2 dv2 => wa_cons (we_var 1 rfl (wa_cons (we_var 2 rfl (wa_nil ⟨v2, n, i, withPre G [], lib, u, rfl, dv2, W, hlib', hu, fun l ws H3 s3 fl3 hl3 ⟨as, hperm, ms, e1, hd3, e2⟩ => ?_⟩)))))))
        -- own_walked[name, i] = [answer ..]
        have hlen : as.length ≤ 5 := by
          rw [hperm.length_eq]
          exact foldA_len W
        have s13 : Same H H3 := (s1.trans s2).trans s3
        refine ws_cons (ps_dput (hu_of oo.room) pe_w pe_w pe_w rfl) (we_en (en_lc oo (lc_is (ds' := as.map encAns) (by
          rw [List.filter_eq_self.mpr (fun _ _ => rfl)]
          rw [show (fun z : Ans × V => encAns z.1) = encAns ∘ Prod.fst from rfl, ← List.map_map, List.map_fst_zip (by omega)]) (lc_mk (xs := as.zip ms) (enc := fun (z : Ans × V) => D.tup [encAns z.1, .raw z.2]) (p := fun _ => true) (f := fun (z : Ans × V) => encAns z.1) (ρ := [none, none, none, some (.lst ((as.zip ms).map fun (z : Ans × V) => D.tup [encAns z.1, .raw z.2])), none, none]) (ρ' := fun (z : Ans × V) => [none, none, none, some (.lst ((as.zip ms).map fun (z : Ans × V) => D.tup [encAns z.1, .raw z.2])), some (encAns z.1), some (.raw z.2)]) [("answer", 4), ("steps", 5)] (blkOk_by rfl) (si_lst (ee_var 3 rfl))
          (fun _ _ _ _ _ => pg_tup oo.blk.calm (pgs_cons (pg_name (i := 4) oo.nd rfl (Or.inl rfl)) (pgs_cons (pg_name (i := 5) oo.nd rfl (Or.inl rfl)) pgs_nil))) (fun z hz => tg_two) (fun _ _ _ _ _ z hz => ets_nil) (fun _ _ _ _ _ z hz hp => ee_var 4 rfl) (own2 rfl rfl) (fun z hz => imm_ans) (by rw [List.length_zip]; exact sz64 (by omega))))) (.skip (.skip (.skip (.cons (.lst hl3 hd3) (.skip (.skip .nil)))))) fun l4 ws4 H4 fl4 s4 h4 hd4 => ?_)
        have s14 := s13.trans s4
        refine we_vf 0 rfl c.cls c.walked (s14 _ _ hin) rfl (hkey fun q5 hq5 => ?_)
        have hw5 : upd H4 q5 (.tup [.str n, .int (i : Int)]) wA = some (.dT (es.map entW)) := by rw [upd_ne (ne_of_none (s14 _ _ hw1) hq5)]; exact s14 _ _ hw1
        have s5 : Same H4 (upd H4 q5 (.tup [.str n, .int (i : Int)])) := Same.new hq5
        have hlen64 : (es.map entW).length < sizeLine := by
          have h1 := nodup_lenG hw2 (m := (names G).flatMap fun n => (List.range 8).map fun i => (n, i)) fun z hz' => by
            obtain ⟨e, he, rfl⟩ := List.mem_map.mp hz'
            obtain ⟨a1, a2, _⟩ := hw3 e he
            exact List.mem_flatMap.mpr ⟨e.1, a1, List.mem_map.mpr ⟨e.2.1, List.mem_range.mpr a2, rfl⟩⟩
          have h2 : ((names G).flatMap fun n => (List.range 8).map fun i => (n, i)).length = (names G).length * 8 := by
            rw [List.length_flatMap]
            simp [List.map_const', List.sum_replicate_nat]
          have h3 : (names G).length ≤ 8 := by
            rw [names, List.length_map]
            exact hz.libs
          rw [List.length_map] at h1 ⊢
          exact Nat.lt_of_le_of_lt (by omega : _ ≤ 64) (by decide)
        refine ⟨wA, _, rfl, DPut.t (k := [Sum.inr n, Sum.inl (i : Int)]) hw5 upd_same hlen64, ?_⟩
        rw [put_new hm]
        have s15 : Same H (upd H4 q5 (.tup [.str n, .int (i : Int)])) := s14.trans s5
        have e6 : hide (upd (upd H4 q5 (.tup [.str n, .int (i : Int)])) wA (.dT ((es ++ [(n, i, l4)]).map entW))) wA = hide (upd H4 q5 (.tup [.str n, .int (i : Int)])) wA := hide_upd _ _ _
        have hwA6 : upd (upd H4 q5 (.tup [.str n, .int (i : Int)])) wA (.dT ((es ++ [(n, i, l4)]).map entW)) wA = some (.dT ((es ++ [(n, i, l4)]).map entW)) := upd_same
        have htw : t ≠ wA := fun z => by rw [z, hw1] at hin; cases hin
        have hin6 : upd (upd H4 q5 (.tup [.str n, .int (i : Int)])) wA (.dT ((es ++ [(n, i, l4)]).map entW)) t = some (.ins CT dx (fsT vp wA)) := by rw [upd_ne htw]; exact s15 _ _ hin
        have hl4w : l4 ≠ wA := ne_of_none' (s13 _ _ hw1) fl4
        have hl4s : hide (upd H4 q5 (.tup [.str n, .int (i : Int)])) wA l4 = some (.lst ws4) := by rw [hide_at hl4w]; exact s5 _ _ h4
        generalize hH6 : upd (upd H4 q5 (.tup [.str n, .int (i : Int)])) wA (.dT ((es ++ [(n, i, l4)]).map entW)) = H6 at e6 hwA6 hin6 ⊢
        have sh : Same (hide H wA) (hide H6 wA) := by rw [e6]; exact hide_mono s15
        have hd6 : DatAll K (hide H6 wA) ws4 (as.map encAns) := by
          rw [e6]
          refine DatAll.keepT (fun b vs e => ?_) (hd4.mono s5) (imms_map fun _ _ => imm_ans)
          rcases e with e | e
          · have ne : b ≠ wA := fun z => by
              subst z
              rcases e with e | ⟨_, e⟩ <;> (rw [hw5] at e; cases e)
            rcases e with e | ⟨ob', e⟩
            · exact .inl (.inl (by rw [hide_at ne]; exact e))
            · exact .inl (.inr ⟨ob', by rw [hide_at ne]; exact e⟩)
          · exact .inr e
        have hnew : ∀ a, a ∈ as ↔ a ∈ aloneG G n i := fun a => by
          rw [hperm.mem_iff]
          unfold aloneG
          rw [← foldA_alone, huse]
        have hall : ∀ e ∈ es ++ [(n, i, l4)], e.1 ∈ names G ∧ e.2.1 < 8 ∧ ∃ (ws : List V) (as : List Ans), hide H6 wA e.2.2 = some (.lst ws) ∧ DatAll K (hide H6 wA) ws (as.map encAns) ∧ as.length ≤ 5 ∧ ∀ a, a ∈ as ↔ a ∈ aloneG G e.1 e.2.1 := fun e he => by
          rcases List.mem_append.mp he with h | h
          · obtain ⟨a1, a2, ws', as', a3, a4, a5⟩ := hw3 e h
            exact ⟨a1, a2, ws', as', sh _ _ a3, a4.mono sh, a5⟩
          · have : e = (n, i, l4) := by simpa using h
            rw [this]
            exact ⟨hnm, hi8, ws4, as, by rw [e6]; exact hl4s, hd6, hlen, hnew⟩
        refine ws_nil ⟨_, _, _, es ++ [(n, i, l4)], rfl, ⟨⟨⟨dx, vp, hin6, dvp.mono sh⟩, es ++ [(n, i, l4)], hwA6, ?_, hall⟩, sh, ?_⟩, hwA6, ?_, fun e he => (hall e he).2.2⟩
        · rw [List.map_append, List.nodup_append]
          refine ⟨hw2, by simp, ?_⟩
          intro a ha b hb e
          have : b = (n, i) := by simpa using hb
          subst this
          subst e
          exact hm ha
        · intro kvs e kv hkv l hl
          rw [hwA6] at e
          injection e with e
          injection e with e
          subst e
          rw [List.map_append] at hkv
          rcases List.mem_append.mp hkv with h | h
          · exact .inl ⟨_, hw1, h⟩
          · have hh : kv = entW (n, i, l4) := by simpa using h
            subst hh
            have hl' : V.ref l4 = V.ref l := hl
            injection hl' with hl'
            subst hl'
            exact .inr (s13.free fl4)
        · rw [List.map_append]
          exact List.mem_append_right _ (by simp)
    · rintro σ H1 ⟨x3, x4, x5, es1, rfl, T1, hw, hmem, hall⟩
      obtain ⟨dx1, vp1, hin1, _⟩ := T1.at_.ins
      obtain ⟨e, he, e1, e2, hv⟩ := val_some hmem
      refine ws_ret (we_of (pe_dget (hu_of oo.room) pe_w pe_w (fun _ _ => rfl)) (we_vf 0 rfl c.cls c.walked hin1 rfl (hkey fun q hq => ⟨wA, .ref e.2.2, rfl, ?_, ?_⟩)))
      · have := DGet.t (H := upd H1 q (.tup [.str n, .int (i : Int)])) (a := wA) (b := q) (k := [Sum.inr n, Sum.inl (i : Int)]) (kvs := es1.map entW) (by rw [upd_ne (ne_of_none hw hq)]; exact hw) upd_same
        rw [hv] at this
        exact this
      · obtain ⟨ws, as, a3, a4, a5⟩ := hall e he
        have s2 : Same H1 (upd H1 q (.tup [.str n, .int (i : Int)])) := Same.new hq
        rw [e1, e2] at a5
        exact hQ _ ws as _ (T1.trans x (TStep.grow T1.at_ s2)) (hide_mono s2 _ _ a3) (a4.mono (hide_mono s2)) a5.1 a5.2
end
end K74

set_option Elab.async false
set_option linter.all false
set_option maxRecDepth 100000
set_option maxHeartbeats 4000000
/-! K74.KT2: told_inside, told_outside. -/
namespace K74
open PySem PySem.Spec PyProof.Rows L2

theorem rowsPub_names {P : ProgD} (hw : WF P) : ∀ x ∈ rowsToPublic P, x ∈ names P := fun x hx => by
  obtain ⟨k, _, h⟩ := List.mem_flatMap.mp hx
  exact doorRow_names hw x h
section
variable {X : Cx} {B : Hp} {ρ : Rho} {e i : Expr} {k j : Nat} {p1 p2 p3 p4 p5 : Pos} {G : ProgD}
theorem ee_mode (h : EE X e B ρ (encProg G)) (hi : EE X i B ρ (dNat k)) (hk : k < G.doors.length) (hs : PlainIx i := by exact fun _ _ => rfl) : EE X (.Subscript (.Subscript (.Subscript e (.Constant (.int 2) j p1) p2) i p3) (.Constant (.int 1) j p4) p5) B ρ (.str (modeOf G k)) := by
  have hdo : G.doors[k]? = some G.doors[k] := List.getElem?_eq_getElem hk
  generalize G.doors[k] = dd at hdo
  have hmode : modeOf G k = dd.2 := by unfold modeOf; rw [hdo]
  rw [hmode]
  have hat : (D.tup (G.doors.map encPair)).at ((k : Nat) : Int) = some (encPair dd) := by
    show atI (G.doors.map encPair) _ = _
    exact atI_nat (by rw [List.getElem?_map, hdo]; rfl)
  exact ee_ix (ee_ix (ee_ix h ee_int rfl) hi hat hs) ee_int rfl
end
section
variable {P : Program} {w : World} {K : PySem.W.Frag} {mg : Str → Option Value} {base : Heap} {f : Addr} {fd : FuncData} {k : Nat} {CT : Addr}
abbrev s_told_inside : Stmt := inClass (top 51) 1
theorem sc_told_inside : FnScope ["self", "first", "use", "found", "later"] ["self", "first", "use"] (defScope s_told_inside) := ⟨rfl, rfl, rfl, by decide +kernel, rfl, by decide +kernel, by decide +kernel⟩
def RToldIn (K : PySem.W.Frag) (CT : Addr) : Hp → List D → D → Prop := fun H ds d => ∃ t wA dx vp G first u, H t = some (.ins CT dx (fsT vp wA)) ∧ Dat K H vp (encProg G) ∧ ds = [.raw (.ref t), .lst (first.map D.str), encUse u] ∧ d = .lst ((inside G first u).map encAns) ∧ WF G ∧ SZ G ∧ ∀ x ∈ first, x ∈ names G
theorem ok_told_inside {kr : Nat} (F : Fun K "told_inside" "Trial.told_inside" s_told_inside f fd) (c : ClsT K CT) (C : Gk mg K) (hk : kr ≤ k ∧ 3 ≤ k) (c_server : Cal P w K mg base 3 "server" (spP K RServer)) (c_rows_to_public : Cal P w K mg base kr "rows_to_public" (spN K RRowsPub)) : FnOk P w K mg base CX0 (k + 1) f fd ["self", "first", "use"] (spP K (RToldIn K CT)) := by
  refine fn_P F sc_told_inside (fun H ds d h => ?_) (fun cdv A outer s H E ds d oo h => ?_)
  · obtain ⟨t, wA, dx, vp, G, first, u, _, _, rfl, _⟩ := h
    rfl
  · obtain ⟨t, wA, dx, vp, G, first, u, hin, dvp, rfl, rfl, hw, hz, hsub⟩ := h
    have efp : ∀ {ρ : Rho} {e : Expr} {pos : Pos}, EE (cxOf CX0 P w K mg base ["self", "first", "use", "found", "later"] "Trial.told_inside" (defScope s_told_inside) f cdv A outer s H E).nox e H ρ (.raw (.ref t)) → attributeBase e "own_program" (cxOf CX0 P w K mg base ["self", "first", "use", "found", "later"] "Trial.told_inside" (defScope s_told_inside) f cdv A outer s H E).nox.env (eval e (cxOf CX0 P w K mg base ["self", "first", "use", "found", "later"] "Trial.told_inside" (defScope s_told_inside) f cdv A outer s H E).nox.env) = eval e (cxOf CX0 P w K mg base ["self", "first", "use", "found", "later"] "Trial.told_inside" (defScope s_told_inside) f cdv A outer s H E).nox.env →
        EE (cxOf CX0 P w K mg base ["self", "first", "use", "found", "later"] "Trial.told_inside" (defScope s_told_inside) f cdv A outer s H E).nox (.Attribute e "own_program" pos) H ρ (encProg G) := fun h3 h4 => ee_fld (C := CT) h3 ⟨dx, _, vp, hin, c.cls, c.program, rfl, dvp⟩ h4
    refine bs_set 3 oo (ee_call c_server oo hk.2 (ea_cons (efp (ee_var 0 rfl) rfl) (ea_cons (ee_var 1 rfl) (ea_cons (ee_var 2 rfl) ea_nil))) (d := encOptAns (server G first u)) (fun _ _ => ⟨G, first, u, rfl, rfl, hz, hsub⟩)) ?_
    cases hq : server G first u with
    | some a =>
      refine bs_ifR (et_cmp od_notN (ee_var 3 rfl) ee_non) (bs_retIs (ee_lst (ea_cons (ee_var 3 rfl) ea_nil)) ?_)
      unfold inside
      rw [hq]
      rfl
    | none =>
      refine bs_ifF (et_cmp od_notN (ee_var 3 rfl) ee_non) ?_
      refine bs_set 4 oo (ee_call c_server oo hk.2 (ea_cons (efp (ee_var 0 rfl) rfl) (ea_cons (ee_callN c_rows_to_public oo hk.1 (ea_cons (efp (ee_var 0 rfl) rfl) ea_nil) (fun _ _ => ⟨G, rfl, rfl, hw, hz⟩)) (ea_cons (ee_var 2 rfl) ea_nil))) (d := encOptAns (server G (rowsToPublic G) u)) (fun _ _ => ⟨G, rowsToPublic G, u, rfl, rfl, hz, rowsPub_names hw⟩)) ?_
      have e1 : (if u.2.2 = true then encAns [sNobody] else encAns [sLost]) = encAns (noAns u) := by
        unfold noAns
        split <;> rfl
      cases hq2 : server G (rowsToPublic G) u with
      | none =>
        refine bs_retIs (ee_op (od_addL (ys := []) (by show 1 + 0 ≤ sizeLine; decide)) (ee_lst (ea_cons (ee_is e1 (ee_if (et_val (ee_ix (ee_var 2 rfl) ee_int rfl)) (fun _ => ee_gc C.NOBODY) (fun _ => ee_gc C.LOST))) ea_nil)) (ee_is (d' := .lst []) rfl (ee_if (x := true) (d2 := .lst []) (et_is (x := isNonD .non) rfl (et_cmp od_isN (ee_var 4 rfl) ee_non)) (fun _ => ee_lst ea_nil) (fun h => by cases h)))) ?_
        unfold inside
        rw [hq, hq2]
        rfl
      | some b =>
        refine bs_retIs (ee_op (od_addL (ys := [encAns b]) (by show 1 + 1 ≤ sizeLine; decide)) (ee_lst (ea_cons (ee_is e1 (ee_if (et_val (ee_ix (ee_var 2 rfl) ee_int rfl)) (fun _ => ee_gc C.NOBODY) (fun _ => ee_gc C.LOST))) ea_nil)) (ee_is (d' := .lst [encAns b]) rfl (ee_if (x := false) (d1 := .lst []) (et_is (x := isNonD (encAns b)) rfl (et_cmp od_isN (ee_var 4 rfl) ee_non)) (fun h => by cases h) (fun _ => ee_lst (ea_cons (ee_var 4 rfl) ea_nil))))) ?_
        unfold inside
        rw [hq, hq2]
        rfl

abbrev s_told_outside : Stmt := inClass (top 51) 3
theorem sc_told_outside : FnScope ["self", "first", "name", "i", "use", "modes", "found", "numbers", "early", "near", "number", "mode", "answer"] ["self", "first", "name", "i", "use"] (defScope s_told_outside) := ⟨rfl, rfl, rfl, by decide +kernel, rfl, by decide +kernel, by decide +kernel⟩
/-- what a program must be for a trial -/
structure PT0 (G : ProgD) : Prop where
  wf : WF G
  sz : SZ G
  wk : WK (withPre G [])
def QOutside (K : PySem.W.Frag) (CT : Addr) : List V → Hp → VK → Prop := fun vs H Q => ∃ (t wA : Addr) (G : ProgD) (first : List S) (vf : V) (n : S) (i : Nat) (vu : V) (lib : LibD) (u : UseD), vs = [.ref t, vf, .str n, .int (i : Int), vu] ∧ TAt K CT H t wA G ∧ PT0 G ∧ Dat K (hide H wA) vf (.lst (first.map D.str)) ∧ Dat K (hide H wA) vu (encUse u) ∧ (∀ x ∈ first, x ∈ names G) ∧ libOf G n = some lib ∧ lib.uses[i]? = some u ∧
  ∀ (l : Addr) (ws : List V) (as : List Ans) (H' : Hp), TStep K CT H t wA G H' → hide H' wA l = some (.lst ws) → DatAll K (hide H' wA) ws (as.map encAns) → as.length ≤ 16 → (∀ a, a ∈ as ↔ a ∈ outside G (aloneG G) first n i u) → Q (.ref l) H'
/-- data stand beside the walked runs -/
theorem TAt.beside {K : PySem.W.Frag} {CT : Addr} {H : Hp} {t wA : Addr} {G : ProgD} (x : TAt K CT H t wA G) {v : V} {d : D} (h : Dat K H v d) : Dat K (hide H wA) v d := by
  obtain ⟨es, hw, _⟩ := x.walked
  refine Dat.keep2 (fun b vs e => ?_) (fun b vs e => ?_) h
  · have ne : b ≠ wA := fun z => by subst z; rw [hw] at e; cases e
    rw [hide_at ne]
    exact e
  · rcases e with e | e
    · have ne : b ≠ wA := fun z => by
        subst z
        rcases e with e | ⟨_, e⟩ <;> (rw [hw] at e; cases e)
      rcases e with e | ⟨ob', e⟩
      · exact .inl (.inl (by rw [hide_at ne]; exact e))
      · exact .inl (.inr ⟨ob', by rw [hide_at ne]; exact e⟩)
    · exact .inr e
theorem TAt.besides {K : PySem.W.Frag} {CT : Addr} {H : Hp} {t wA : Addr} {G : ProgD} (x : TAt K CT H t wA G) : ∀ {vs : List V} {ds : List D}, DatAll K H vs ds → DatAll K (hide H wA) vs ds
  | _, _, .nil => .nil
  | _, _, .cons h r => .cons (x.beside h) (x.besides r)
theorem TAt.lst {K : PySem.W.Frag} {CT : Addr} {H : Hp} {t wA : Addr} {G : ProgD} (x : TAt K CT H t wA G) {l : Addr} {ws : List V} (h : H l = some (.lst ws)) : hide H wA l = some (.lst ws) := by
  obtain ⟨es, hw, _⟩ := x.walked
  rw [hide_at (fun z => by subst z; rw [hw] at h; cases h)]
  exact h
theorem ok_told_outside {kd kr ka : Nat} (F : Fun K "told_outside" "Trial.told_outside" s_told_outside f fd) (c : ClsT K CT) (C : Gk mg K) (hk : kd ≤ k ∧ kr ≤ k ∧ ka ≤ k ∧ 3 ≤ k) (c_server : Cal P w K mg base 3 "server" (spP K RServer)) (c_doors_of : Cal P w K mg base kd "doors_of" (spN K RDoorsOf)) (c_door_row : Cal P w K mg base kr "door_row" (spN K RDoorRow)) (m_told_alone : Met P w K mg base ka CT "told_alone" (spG (QAlone K CT))) : FnOk P w K mg base CX0 (k + 1) f fd ["self", "first", "name", "i", "use"] (spG (QOutside K CT)) := by
  refine fn_W F sc_told_outside (fun vs H Q h => ?_) (fun cdv A outer s H E vs Q oo h => ?_)
  · obtain ⟨t, wA, G, first, vf, n, i, vu, lib, u, rfl, _⟩ := h
    rfl
  · obtain ⟨t, wA, G, first, vf, n, i, vu, lib, u, rfl, x, pt, dvf, dvu, hsub, hlib, hu, hQ⟩ := h
    obtain ⟨dx, vp, hin, dvp⟩ := x.ins
    have hw := pt.wf
    have hz := pt.sz
    have dvp0 := dvp.mono (hide_same _ _)
    have dvf0 := dvf.mono (hide_same _ _)
    have dvu0 := dvu.mono (hide_same _ _)
    have hdl := hz.doors
    have hdn : ∀ k ∈ doorsOf G n, k < G.doors.length := fun k hk => List.mem_range.mp (List.mem_filter.mp hk).1
    have hdlen : (doorsOf G n).length ≤ 8 := by
      have := List.length_filter_le (fun k => decide (n ∈ doorRow G k)) (List.range G.doors.length)
      rw [List.length_range] at this
      unfold doorsOf
      omega
    have el0 : ∀ {H' : Hp}, Same H H' → ∀ {ρ3 : Rho} {σ3 : L2.St}, EL K H' ρ3 σ3 → EL K H' (some (.raw (.ref t)) :: some (.lst (first.map D.str)) :: some (.str n) :: some (.int (i : Int)) :: some (encUse u) :: ρ3) (some (.ref t) :: some vf :: some (.str n) :: some (.int (i : Int)) :: some vu :: σ3) := by
      intro H' s' ρ3 σ3 e
      exact .cons (.raw _) (.cons (dvf0.mono s') (.cons (.str n) (.cons (.int _) (.cons (dvu0.mono s') e))))
    refine ws_asg (we_of (pe_tup pa_w) (wa_ea (ea_cons (ee_callN c_doors_of oo hk.1 (ea_cons (ee_fld (C := CT) (ee_var 0 rfl) ⟨dx, _, vp, hin, c.cls, c.program, rfl, dvp0⟩) (ea_cons (ee_var 2 rfl) ea_nil)) (fun _ _ => ⟨G, n, rfl, rfl, hw, hz⟩)) (ea_cons (ee_call c_server oo hk.2.2.2 (ea_cons (ee_fld (C := CT) (ee_var 0 rfl) ⟨dx, _, vp, hin, c.cls, c.program, rfl, dvp0⟩) (ea_cons (ee_var 1 rfl) (ea_cons (ee_var 4 rfl) ea_nil))) (d := encOptAns (server G first u)) (fun _ _ => ⟨G, first, u, rfl, rfl, hz, hsub⟩)) ea_nil)) (el0 (Same.refl H) .nil) fun vs H0 s00 dvs => ⟨by rw [dvs.length]; show 2 ≤ sizeLine; decide, fun qp hqp => ?_⟩))
    obtain ⟨v7, v8, rfl, d7, d8⟩ : ∃ v7 v8, vs = [v7, v8] ∧ Dat K H0 v7 (.lst ((doorsOf G n).map dNat)) ∧ Dat K H0 v8 (encOptAns (server G first u)) := by
      cases dvs with | cons h1 r => cases r with | cons h2 r => cases r; exact ⟨_, _, rfl, h1, h2⟩
    have s01 : Same H0 (upd H0 qp (.tup [v7, v8])) := Same.new hqp
    have hqp1 : upd H0 qp (.tup [v7, v8]) qp = some (.tup [v7, v8]) := upd_same
    generalize hH1 : upd H0 qp (.tup [v7, v8]) = H1 at s01 hqp1 ⊢
    have s1 : Same H H1 := s00.trans s01
    replace d7 := d7.mono s01
    replace d8 := d8.mono s01
    refine wg_two 7 8 oo (SqT.of hqp1) ?_
    have x1 := x.mono s1
    cases hq : server G first u with
    | none =>
      rw [hq] at d8
      refine ws_ifE (z := true) (et_cmp od_isN (ee_var 8 rfl) ee_non) (ρ := [none, none, none, none, none, none, none, none, some .non]) (.skip (.skip (.skip (.skip (.skip (.skip (.skip (.skip (.cons d8 .nil))))))))) (fun _ H2 s2 => ?_) (fun z => by cases z)
      have s12 := s1.trans s2
      refine ws_ret (we_met m_told_alone oo hk.2.2.1 (we_var 0 rfl ⟨t, rfl, ⟨_, _, s12 _ _ hin, rfl⟩, wa_cons (we_var 2 rfl (wa_cons (we_var 3 rfl (wa_nil ⟨t, wA, G, n, i, lib, u, rfl, x.mono s12, pt.wk, hz, hlib, hu, fun l ws as H' T h1 h2 hl5 h3 => hQ l ws as H' ((TStep.grow x s12).trans x T) h1 h2 (Nat.le_trans hl5 (by decide)) fun a => ?_⟩))))⟩))
      rw [h3]
      unfold outside
      rw [hq]
    | some early =>
      rw [hq] at d8
      have hout : outside G (aloneG G) first n i u = (((doorsOf G n).map (modeOf G)).filter fun m => decide (m ≠ sDeep)).map (fun _ => early) ++ (if sDeep ∈ (doorsOf G n).map (modeOf G) then (doorsOf G n).map (fun k => (server G (doorRow G k) u).getD early) else []) := by
        unfold outside
        rw [hq]
      refine ws_ifE (z := false) (et_cmp od_isN (ee_var 8 rfl) ee_non) (ρ := [none, none, none, none, none, none, none, none, some (encAns early)]) (.skip (.skip (.skip (.skip (.skip (.skip (.skip (.skip (.cons d8 .nil))))))))) (fun z => by cases z) (fun _ H2 s2 => ws_nil ?_)
      have s12 := s1.trans s2
      -- modes
      refine ws_setLc 5 oo (lc_is (ds' := ((doorsOf G n).map (modeOf G)).map D.str) (by rw [List.filter_eq_self.mpr (fun _ _ => rfl), List.map_map]; rfl) (lc_mk (xs := doorsOf G n) (enc := dNat) (p := fun _ => true) (f := fun k => .str (modeOf G k)) (ρ := [some (.raw (.ref t)), none, none, none, none, none, none, some (.lst ((doorsOf G n).map dNat)), some (encAns early), none, none, none, none]) (ρ' := fun k => [some (.raw (.ref t)), none, none, none, none, none, none, some (.lst ((doorsOf G n).map dNat)), some (encAns early), none, some (dNat k), none, none]) [("number", 10)] (blkOk_by rfl) (si_lst (ee_var 7 rfl)) (fun _ _ _ _ _ => pg_name (i := 10) oo.nd rfl (Or.inl rfl)) (fun z hz => tg_name) (fun _ _ _ _ _ z hz => ets_nil)
        (fun _ _ _ _ _ z hz hp => ee_mode (ee_fld (C := CT) (ee_var 0 rfl) ⟨dx, _, vp, s12 _ _ hin, c.cls, c.program, rfl, dvp0.mono s12⟩) (ee_var 10 rfl) (hdn z hz)) (own1 rfl) (fun z hz => rfl) (sz8 hdlen))) (.cons (.raw _) (.skip (.skip (.skip (.skip (.skip (.skip (.cons (d7.mono s2) (.cons (d8.mono s2) (.skip (.skip (.skip (.skip .nil))))))))))))) fun lm wm H3 flm s3 h3 d3 => ?_
      have hml : ((doorsOf G n).map (modeOf G)).length ≤ 8 := by rw [List.length_map]; exact hdlen
      -- found
      refine ws_setLc 6 oo (lc_mk (xs := (doorsOf G n).map (modeOf G)) (enc := D.str) (p := fun m => decide (m ≠ sDeep)) (f := fun _ => encAns early) (ρ := [none, none, none, none, none, some (.lst (((doorsOf G n).map (modeOf G)).map D.str)), none, none, some (encAns early), none, none, none, none]) (ρ' := fun m => [none, none, none, none, none, some (.lst (((doorsOf G n).map (modeOf G)).map D.str)), none, none, some (encAns early), none, none, some (.str m), none]) [("mode", 11)] (blkOk_by rfl) (si_lst (ee_var 5 rfl)) (fun _ _ _ _ _ => pg_name (i := 11) oo.nd rfl (Or.inl rfl)) (fun z hz => tg_name)
        (fun _ _ _ _ _ z hz => ets_one (et_cmp od_neS (ee_var 11 rfl) (ee_gc C.DEEP))) (fun _ _ _ _ _ z hz hp => ee_var 8 rfl) (own1 rfl) (fun z hz => imm_ans) (sz8 hml)) (.skip (.skip (.skip (.skip (.skip (.cons (.lst h3 d3) (.skip (.skip (.cons ((d8.mono s2).mono s3) (.skip (.skip (.skip (.skip .nil))))))))))))) fun lf wf H4 flf s4 h4 d4 => ?_
      have s14 := (s12.trans s3).trans s4
      have e4 : (((doorsOf G n).map (modeOf G)).filter fun m => decide (m ≠ sDeep)).map (fun _ => encAns early) = ((((doorsOf G n).map (modeOf G)).filter fun m => decide (m ≠ sDeep)).map (fun _ => early)).map encAns := by rw [List.map_map]; rfl
      rw [e4] at d4
      have flfH : H lf = none := (s12.trans s3).free flf
      let M : L2.St → Hp → Prop := fun σ H' => σ[6]? = some (some (.ref lf)) ∧ TStep K CT H t wA G H' ∧ ∃ ws, H' lf = some (.lst ws) ∧ DatAll K H' ws ((outside G (aloneG G) first n i u).map encAns)
      refine ws_ifM M (wt_et (et_cmp (od_inS oo (xs := (doorsOf G n).map (modeOf G))) (ee_gc C.DEEP) (ee_var 5 rfl)) (ρ := [none, none, none, none, none, some (.lst (((doorsOf G n).map (modeOf G)).map D.str))]) (.skip (.skip (.skip (.skip (.skip (.cons ((Dat.lst h3 d3).mono s4) .nil)))))) fun H5 s5 => ?_) ?_
      · have s15 := s14.trans s5
        by_cases hdp : sDeep ∈ (doorsOf G n).map (modeOf G)
        · rw [decide_eq_true hdp]
          refine iteT ?_
          rw [if_pos hdp] at hout
          -- near
          have d7' := ((d7.mono s2).mono s3).mono (s4.trans s5)
          have d8' := ((d8.mono s2).mono s3).mono (s4.trans s5)
          refine ws_setLc 9 oo (lc_is (ds' := ((doorsOf G n).map fun k => server G (doorRow G k) u).map encOptAns) (by rw [List.filter_eq_self.mpr (fun _ _ => rfl), List.map_map]; rfl) (lc_mk (xs := doorsOf G n) (enc := dNat) (p := fun _ => true) (f := fun k => encOptAns (server G (doorRow G k) u)) (ρ := [some (.raw (.ref t)), none, none, none, some (encUse u), none, none, some (.lst ((doorsOf G n).map dNat)), some (encAns early), none, none, none, none]) (ρ' := fun k => [some (.raw (.ref t)), none, none, none, some (encUse u), none, none, some (.lst ((doorsOf G n).map dNat)), some (encAns early), none, some (dNat k), none, none]) [("number", 10)] (blkOk_by rfl) (si_lst (ee_var 7 rfl)) (fun _ _ _ _ _ => pg_name (i := 10) oo.nd rfl (Or.inl rfl)) (fun z hz => tg_name) (fun _ _ _ _ _ z hz => ets_nil)
            (fun _ _ _ _ _ z hz' hp => ee_call c_server oo.blk hk.2.2.2 (ea_cons (ee_fld (C := CT) (ee_var 0 rfl) ⟨dx, _, vp, s15 _ _ hin, c.cls, c.program, rfl, dvp0.mono s15⟩) (ea_cons (ee_callN c_door_row oo.blk hk.2.1 (ea_cons (ee_fld (C := CT) (ee_var 0 rfl) ⟨dx, _, vp, s15 _ _ hin, c.cls, c.program, rfl, dvp0.mono s15⟩) (ea_cons (ee_var 10 rfl) ea_nil)) (fun _ _ => ⟨G, z, rfl, rfl, hw, hz, hdn z hz'⟩)) (ea_cons (ee_var 4 rfl) ea_nil))) (fun _ _ => ⟨G, doorRow G z, u, rfl, rfl, hz, doorRow_names hw⟩)) (own1 rfl) (fun z hz => by cases server G (doorRow G z) u with | none => rfl | some a => exact imm_ans) (sz8 hdlen))) (.cons (.raw _) (.skip (.skip (.skip (.cons (dvu0.mono s15) (.skip (.skip (.cons d7' (.cons d8' (.skip (.skip (.skip (.skip .nil))))))))))))) fun ln wn H6 fln s6 h6 d6 => ?_
          have hnl : ((doorsOf G n).map fun k => server G (doorRow G k) u).length ≤ 8 := by rw [List.length_map]; exact hdlen
          -- found.extend
          refine ws_extend (we_var 6 rfl ⟨lf, rfl, ⟨_, s6 _ _ (s5 _ _ h4)⟩, we_en (en_lc oo (lc_mk (xs := (doorsOf G n).map fun k => server G (doorRow G k) u) (enc := encOptAns) (p := fun _ => true) (f := fun o => encAns (o.getD early)) (ρ := [none, none, none, none, none, none, none, none, some (encAns early), some (.lst (((doorsOf G n).map fun k => server G (doorRow G k) u).map encOptAns)), none, none, none]) (ρ' := fun o => [none, none, none, none, none, none, none, none, some (encAns early), some (.lst (((doorsOf G n).map fun k => server G (doorRow G k) u).map encOptAns)), none, none, some (encOptAns o)]) [("answer", 12)] (blkOk_by rfl) (si_lst (ee_var 9 rfl)) (fun _ _ _ _ _ => pg_name (i := 12) oo.nd rfl (Or.inl rfl)) (fun z hz => tg_name) (fun _ _ _ _ _ z hz => ets_nil)
            (fun _ _ _ _ _ z hz' hp => ee_is (d := if isNonD (encOptAns z) = true then encAns early else encOptAns z) (by cases z <;> rfl) (ee_if (et_cmp od_isN (ee_var 12 rfl) ee_non) (fun _ => ee_var 8 rfl) (fun _ => ee_var 12 rfl))) (own1 rfl) (fun z hz => imm_ans) (sz8 hnl))) (.skip (.skip (.skip (.skip (.skip (.skip (.skip (.skip (.cons (d8'.mono s6) (.cons (.lst h6 d6) (.skip (.skip (.skip .nil))))))))))))) fun lx wx H7 flx s7 h7 d7x => ⟨lx, wf, wx, rfl, s7 _ _ (s6 _ _ (s5 _ _ h4)), h7, ?_, ws_nil ⟨rfl, ?_, _, upd_same, ?_⟩⟩⟩)
          · rw [d4.length, d7x.length, List.length_map, List.length_map, List.length_map]
            have q1 := List.length_filter_le (fun m => decide (m ≠ sDeep)) ((doorsOf G n).map (modeOf G))
            have q2 := List.length_filter_le (fun _ : Option Ans => true) ((doorsOf G n).map fun k => server G (doorRow G k) u)
            exact Nat.le_trans (by omega : _ ≤ 16) (by decide)
          · have s17 := (s15.trans s6).trans s7
            have hs : Same H (upd H7 lf (.lst (wf ++ wx))) := hideOf s17 flfH
            exact TStep.grow x hs
          · have eo : (outside G (aloneG G) first n i u).map encAns = ((((doorsOf G n).map (modeOf G)).filter fun m => decide (m ≠ sDeep)).map (fun _ => early)).map encAns ++ (((doorsOf G n).map fun k => server G (doorRow G k) u).filter fun _ => true).map fun o => encAns (o.getD early) := by
              rw [hout, List.map_append, List.filter_eq_self.mpr (fun _ _ => rfl), List.map_map, List.map_map, List.map_map]
              rfl
            rw [eo]
            have kT := upd_keepT (K := K) (o := .lst (wf ++ wx)) (s7 _ _ (s6 _ _ (s5 _ _ h4)))
            exact (DatAll.keepT kT (d4.mono ((s5.trans s6).trans s7)) (imms_map fun _ _ => imm_ans)).append (DatAll.keepT kT d7x (imms_map fun _ _ => imm_ans))
        · rw [decide_eq_false hdp]
          rw [if_neg hdp, List.append_nil] at hout
          refine iteF (ws_nil ⟨rfl, TStep.grow x s15, wf, s5 _ _ h4, ?_⟩)
          rw [hout]
          exact d4.mono s5
      · rintro σ H5 ⟨h6, T, ws, hl, hd⟩
        have hol : (outside G (aloneG G) first n i u).length ≤ 16 := by
          rw [hout, List.length_append, List.length_map]
          have q1 := List.length_filter_le (fun m => decide (m ≠ sDeep)) ((doorsOf G n).map (modeOf G))
          by_cases hd' : sDeep ∈ (doorsOf G n).map (modeOf G)
          · rw [if_pos hd', List.length_map]
            omega
          · rw [if_neg hd', List.length_nil]
            omega
        exact ws_ret (we_var 6 h6 (hQ lf ws _ H5 T (T.at_.lst hl) (T.at_.besides hd) hol fun a => Iff.rfl))
end
end K74

set_option Elab.async false
set_option linter.all false
set_option maxRecDepth 100000
set_option maxHeartbeats 4000000
/-! K74.KT3: gives, gives_all. -/
namespace K74
open PySem PySem.Spec PyProof.Rows L2

theorem inside_len {P : ProgD} {first : List S} {u : UseD} : (inside P first u).length ≤ 16 := by
  unfold inside
  split
  · show 1 ≤ 16
    decide
  · rw [List.length_cons]
    split
    · show 2 ≤ 16
      decide
    · show 1 ≤ 16
      decide
theorem eqD_strs : ∀ {xs ys : List S}, eqDs (xs.map D.str) (ys.map D.str) = decide (xs = ys)
  | [], [] => by simp [eqDs]
  | [], _ :: _ => by simp [eqDs]
  | _ :: _, [] => by simp [eqDs]
  | x :: xs, y :: ys => by
    show (eqD (.str x) (.str y) && eqDs (xs.map D.str) (ys.map D.str)) = _
    rw [eqD_strs]
    have e : eqD (.str x) (.str y) = (x == y) := rfl
    rw [e]
    by_cases h : x = y
    · subst h
      simp
    · simp [h]
theorem eqD_ans {a b : Ans} : eqD (encAns a) (encAns b) = decide (a = b) := eqD_strs
theorem cmpD_strs : ∀ {xs ys : List S}, cmpDs (xs.map D.str) (ys.map D.str) = true
  | [], _ => by simp [cmpDs]
  | _ :: _, [] => by simp [cmpDs]
  | x :: xs, y :: ys => by
    show (cmpD (.str x) (.str y) && cmpDs (xs.map D.str) (ys.map D.str)) = true
    rw [cmpD_strs]
    rfl
theorem deep_ans {a : Ans} : (encAns a).deep ≤ 60 := by
  have : deeps (a.map D.str) = 0 := by
    induction a with
    | nil => rfl
    | cons x r ih =>
      show max (D.str x).deep (deeps (r.map D.str)) = 0
      rw [ih]
      rfl
  show deeps (a.map D.str) + 1 ≤ 60
  omega
section
variable {X : Cx} {B : Hp} {k : Nat} {a b : Ans}
theorem od_eqAns (o : Ok X k) : OpD X (compareOp .Eq) B (encAns a) (encAns b) (.bl (decide (a = b))) := by
  have h := od_eqD (B := B) o (da := encAns a) (db := encAns b) rfl deep_ans cmpD_strs fines_str fines_str
  rw [eqD_ans] at h
  exact h
end
section
variable {X : Cx} {σ : L2.St} {H : Hp} {pos p1 p2 p3 : Pos} {k : Nat} {x y z : S}
theorem wg_three (i j m : Nat) (oo : Ok X k) {l : Addr} {u v w : V} {kt : Nat} {Q : L2.St → Hp → Prop} (hl : SqT X.K H l [u, v, w]) (q : Q (((σ.set i (some u)).set j (some v)).set m (some w)) H)
    (hi : X.N[i]? = some x := by rfl) (hx : Loc X.env.scope x := by first | exact Or.inl rfl | exact Or.inr rfl) (hf : X.fn x = true ∨ X.env.scope.names.lookup x = some .local := by first | exact .inl rfl | exact .inr rfl)
    (hj : X.N[j]? = some y := by rfl) (hy : Loc X.env.scope y := by first | exact Or.inl rfl | exact Or.inr rfl) (hfy : X.fn y = true ∨ X.env.scope.names.lookup y = some .local := by first | exact .inl rfl | exact .inr rfl)
    (hm : X.N[m]? = some z := by rfl) (hz : Loc X.env.scope z := by first | exact Or.inl rfl | exact Or.inr rfl) (hfz : X.fn z = true ∨ X.env.scope.names.lookup z = some .local := by first | exact .inl rfl | exact .inr rfl)
    (hs : (assignEach [.Name x p1, .Name y p2, .Name z p3] X.env).map (·.2) = assign (.Name x p1) X.env :: (assignEach [.Name y p2, .Name z p3] X.env).map (·.2) := by rfl) (hs2 : (assignEach [.Name y p2, .Name z p3] X.env).map (·.2) = assign (.Name y p2) X.env :: (assignEach [.Name z p3] X.env).map (·.2) := by rfl) (hs3 : (assignEach [.Name z p3] X.env).map (·.2) = assign (.Name z p3) X.env :: (assignEach [] X.env).map (·.2) := by rfl)
    (hn : (assignEach [.Name x p1, .Name y p2, .Name z p3] X.env).length = 3 := by rfl) (hst : (assignEach [.Name x p1, .Name y p2, .Name z p3] X.env).findIdx? (·.1) = none := by rfl) : WG X (.Tuple [.Name x p1, .Name y p2, .Name z p3] kt pos) (.ref l) σ H Q :=
  wg_of (pg_tup oo.calm (pgs_cons (pg_name oo.nd hi hx hf) (pgs_cons (pg_name oo.nd hj hy hfy) (pgs_cons (pg_name oo.nd hm hz hfz) pgs_nil hs3) hs2) hs) hn hst) ⟨l, _, rfl, hl, rfl, u, [v, w], rfl, v, [w], rfl, w, [], rfl, rfl, q⟩
end
section
variable {P : Program} {w : World} {K : PySem.W.Frag} {mg : Str → Option Value} {base : Heap} {f : Addr} {fd : FuncData} {k : Nat} {CT : Addr}
abbrev s_gives : Stmt := inClass (top 51) 4
theorem sc_gives : FnScope ["self", "preload", "want", "told", "name", "i", "wanted", "use", "first", "answer"] ["self", "preload", "want"] (defScope s_gives) := ⟨rfl, rfl, rfl, by decide +kernel, rfl, by decide +kernel, by decide +kernel⟩
def QGives (K : PySem.W.Frag) (CT : Addr) : List V → Hp → VK → Prop := fun vs H Q => ∃ (t wA : Addr) (G : ProgD) (vq : V) (pre : List S) (vw : V) (wt : WantD), vs = [.ref t, vq, vw] ∧ TAt K CT H t wA G ∧ PT0 G ∧ Dat K (hide H wA) vq (.tup (pre.map D.str)) ∧ Dat K (hide H wA) vw (encWant wt) ∧ (∀ x ∈ pre, x ∈ names G) ∧ pre.length ≤ 8 ∧ WOk G wt ∧
  ∀ H', TStep K CT H t wA G H' → Q (.bl (gives G (aloneG G) pre wt)) H'
theorem ok_gives {kr ki ko : Nat} (F : Fun K "gives" "Trial.gives" s_gives f fd) (c : ClsT K CT) (T : Gb mg) (hk : kr ≤ k ∧ ki ≤ k ∧ ko ≤ k ∧ 3 ≤ k) (c_use_at : Cal P w K mg base 3 "use_at" (spP K RUseAt)) (c_main_of : Cal P w K mg base 1 "main_of" (spP K RMainOf)) (c_row : Cal P w K mg base kr "row" (spN K RRow)) (m_told_inside : Met P w K mg base ki CT "told_inside" (spP K (RToldIn K CT))) (m_told_outside : Met P w K mg base ko CT "told_outside" (spG (QOutside K CT))) : FnOk P w K mg base CX0 (k + 1) f fd ["self", "preload", "want"] (spG (QGives K CT)) := by
  refine fn_W F sc_gives (fun vs H Q h => ?_) (fun cdv A outer s H E vs Q oo h => ?_)
  · obtain ⟨t, wA, G, vq, pre, vw, wt, rfl, _⟩ := h
    rfl
  · obtain ⟨t, wA, G, vq, pre, vw, wt, rfl, x, pt, dvq, dvw, hsub, hpl, wok, hQ⟩ := h
    obtain ⟨lib, u, hlib, hu⟩ := wok.use
    obtain ⟨dx, vp, hin, dvp⟩ := x.ins
    have dvp0 := dvp.mono (hide_same _ _)
    have dvq0 := dvq.mono (hide_same _ _)
    have dvw0 := dvw.mono (hide_same _ _)
    have huse : useAt G wt.who wt.i = u := by
      unfold useAt
      rw [hlib]
      show lib.uses.getD wt.i _ = u
      rw [List.getD_eq_getElem?_getD, hu]
      rfl
    obtain ⟨qw, vans, rfl, hqw, dans⟩ : ∃ q v6, vw = .ref q ∧ SqT K H q [.str wt.who, .int (wt.i : Int), v6] ∧ Dat K H v6 (encAns wt.ans) := by
      cases dvw0 with
      | tup h1 h2 =>
        cases h2 with
        | cons a1 h2 =>
          cases h2 with
          | cons a2 h2 =>
            cases h2 with
            | cons a3 h2 =>
              cases h2
              cases a1
              cases a2
              exact ⟨_, _, rfl, h1, a3⟩
    refine ws_asg (we_var 2 rfl (wg_three 4 5 6 oo hqw ?_))
    have hmain := mainOf_names pt.wf.ne
    have hlen9 : (mainOf G :: pre).length ≤ 64 := by simp only [List.length_cons]; omega
    have hsub' : ∀ y ∈ mainOf G :: pre, y ∈ names G := fun y hy => by
      rcases List.mem_cons.mp hy with rfl | h
      · exact hmain
      · exact hsub y h
    refine ws_cons (ps_par oo.calm oo.nd (i := 7) (j := 8) rfl rfl (by decide) rfl rfl pa_w rfl rfl) (wa_ea (ds := [encUse u, .lst ((rowM G (mainOf G :: pre)).map D.str)]) (ea_cons (ee_call c_use_at oo hk.2.2.2 (ea_cons (ee_fld (C := CT) (ee_var 0 rfl) ⟨dx, _, vp, hin, c.cls, c.program, rfl, dvp0⟩) (ea_cons (ee_var 4 rfl) (ea_cons (ee_var 5 rfl) ea_nil))) (fun _ _ => ⟨G, wt.who, lib, wt.i, u, rfl, rfl, hlib, hu, pt.sz.libs⟩)) (ea_cons (ee_callN c_row oo hk.1 (ea_cons (ee_fld (C := CT) (ee_var 0 rfl) ⟨dx, _, vp, hin, c.cls, c.program, rfl, dvp0⟩) (ea_cons (ee_tup (ea_cons (ee_call c_main_of oo (by omega) (ea_cons (ee_fld (C := CT) (ee_var 0 rfl) ⟨dx, _, vp, hin, c.cls, c.program, rfl, dvp0⟩) ea_nil) (fun _ _ => ⟨G, rfl, rfl, pt.wf.ne⟩)) (ea_star (ee_var 1 rfl) ea_nil)) ?_) ea_nil)) (fun _ _ => ⟨G, mainOf G :: pre, by rw [List.append_nil]; rfl, rfl, pt.wf, pt.sz, hlen9, hsub'⟩)) ea_nil)) (ρ := [some (.raw (.ref t)), some (.tup (pre.map D.str)), none, none, some (.str wt.who), some (.int (wt.i : Int))]) (.cons (.raw _) (.cons dvq0 (.skip (.skip (.cons (.str _) (.cons (.int _) .nil)))))) fun vs H1 s1 dvs => ?_)
    · rw [List.append_nil]
      show ((pre.map D.str).length + 1).ble 100 = true
      rw [List.length_map]
      exact Nat.ble_eq_true_of_le (by omega)
    obtain ⟨v7, v8, rfl, d7, d8⟩ : ∃ v7 v8, vs = [v7, v8] ∧ Dat K H1 v7 (encUse u) ∧ Dat K H1 v8 (.lst ((rowM G (mainOf G :: pre)).map D.str)) := by
      cases dvs with | cons h1 r => cases r with | cons h2 r => cases r; exact ⟨_, _, rfl, h1, h2⟩
    refine ⟨v7, v8, rfl, ?_⟩
    have x1 := x.mono s1
    have hrn : ∀ y ∈ rowM G (mainOf G :: pre), y ∈ names G := row_names pt.wf hsub'
    -- told
    let Q3 : VK := fun v H' => TStep K CT H t wA G H' ∧ ∃ as : List Ans, Dat K (hide H' wA) v (.lst (as.map encAns)) ∧ as.length ≤ 16 ∧ ∀ a, a ∈ as ↔ a ∈ told G (aloneG G) pre wt.who wt.i
    refine ws_set 3 oo (WE.mono (Q := Q3) ?_ ?_)
    · refine we_of (pe_ifExp pt_w pe_w pe_w) (wt_et (et_cmp (od_inS oo (xs := rowM G (mainOf G :: pre))) (ee_var 4 rfl) (ee_var 8 rfl)) (ρ := [none, none, none, none, some (.str wt.who), none, none, none, some (.lst ((rowM G (mainOf G :: pre)).map D.str))]) (.skip (.skip (.skip (.skip (.cons (.str _) (.skip (.skip (.skip (.cons d8 .nil))))))))) fun H2 s2 => ?_)
      have s12 := s1.trans s2
      by_cases hf : wt.who ∈ rowM G (mainOf G :: pre)
      · rw [decide_eq_true hf]
        refine iteT (we_ee (ee_meth m_told_inside oo hk.2.1 (ee_var 0 rfl) ⟨_, _, s12 _ _ hin, rfl⟩ (ea_cons (ee_var 8 rfl) (ea_cons (ee_var 7 rfl) ea_nil)) (fun _ s => ⟨t, wA, dx, vp, G, rowM G (mainOf G :: pre), u, s _ _ (s12 _ _ hin), (dvp0.mono s12).mono s, rfl, rfl, pt.wf, pt.sz, hrn⟩)) (ρ := [some (.raw (.ref t)), none, none, none, none, none, none, some (encUse u), some (.lst ((rowM G (mainOf G :: pre)).map D.str))]) (.cons (.raw _) (.skip (.skip (.skip (.skip (.skip (.skip (.cons (d7.mono s2) (.cons (d8.mono s2) .nil))))))))) fun v3 H3 s3 dv3 => ⟨TStep.grow x (s12.trans s3), _, ((x.mono s12).mono s3).beside dv3, inside_len, fun a => ?_⟩)
        unfold told
        rw [if_pos hf, huse]
      · rw [decide_eq_false hf]
        have x2 := x.mono s12
        refine iteF (we_met m_told_outside oo hk.2.2.1 (we_var 0 rfl ⟨t, rfl, ⟨_, _, s12 _ _ hin, rfl⟩, wa_cons (we_var 8 rfl (wa_cons (we_var 4 rfl (wa_cons (we_var 5 rfl (wa_cons (we_var 7 rfl (wa_nil ⟨t, wA, G, rowM G (mainOf G :: pre), v8, wt.who, wt.i, v7, lib, u, rfl, x2, pt, x2.beside (d8.mono s2), x2.beside (d7.mono s2), hrn, hlib, hu, fun l ws as H' T h1 h2 hl16 h3 => ⟨(TStep.grow x s12).trans x T, as, .lst h1 h2, hl16, fun a => ?_⟩⟩))))))))⟩))
        rw [h3]
        unfold told
        rw [if_neg hf, huse]
    · rintro v3 H3 ⟨T3, as, dv3, hal, has⟩
      have dw3 : Dat K H3 vans (encAns wt.ans) := ((x.beside dans).mono T3.same).mono (hide_same _ _)
      obtain ⟨l3, ws3, rfl, hl3, hd3⟩ : ∃ l ws, v3 = .ref l ∧ H3 l = some (.lst ws) ∧ DatAll K H3 ws (as.map encAns) := by
        cases dv3 with | lst h t => exact ⟨_, _, rfl, hide_same _ _ _ _ h, t.mono (hide_same _ _)⟩
      refine ws_ret (we_ee (ee_all oo T.all (bs := as.map fun a => decide (a = wt.ans)) (ee_lc oo (lc_is (by rw [List.filter_eq_self.mpr (fun _ _ => rfl), List.map_map]; rfl) (lc_mk (xs := as) (enc := encAns) (p := fun _ => true) (f := fun a => .bl (decide (a = wt.ans))) (ρ := [none, none, none, some (.lst (as.map encAns)), none, none, some (encAns wt.ans), none, none, none]) (ρ' := fun a => [none, none, none, some (.lst (as.map encAns)), none, none, some (encAns wt.ans), none, none, some (encAns a)]) [("answer", 9)] (blkOk_by rfl) (si_lst (ee_var 3 rfl)) (fun _ _ _ _ _ => pg_name (i := 9) oo.nd rfl (Or.inl rfl)) (fun z hz => tg_name) (fun _ _ _ _ _ z hz => ets_nil)
        (fun _ _ _ _ _ z hz hp => ee_cmp (od_eqAns oo.blk) (ee_var 9 rfl) (ee_var 6 rfl)) (own1 rfl) (fun z hz => rfl) (Nat.lt_of_le_of_lt hal (by decide)))))) (.skip (.skip (.skip (.cons (.lst hl3 hd3) (.skip (.skip (.cons dw3 (.skip (.skip (.skip .nil)))))))))) fun v4 H4 s4 dv4 => ?_)
      cases dv4
      have e : (as.map fun a => decide (a = wt.ans)).all id = gives G (aloneG G) pre wt := by
        rw [List.all_map]
        unfold gives
        rw [Bool.eq_iff_iff, List.all_eq_true, List.all_eq_true]
        constructor
        · exact fun h a ha => h a ((has a).mpr ha)
        · exact fun h a ha => h a ((has a).mp ha)
      rw [e]
      exact hQ H4 (T3.trans x (TStep.grow T3.at_ s4))
end
end K74

set_option Elab.async false
set_option linter.all false
set_option maxRecDepth 100000
set_option maxHeartbeats 4000000
/-! K74.KT4: gives_all (a trial's). -/
namespace K74
open PySem PySem.Spec PyProof.Rows L2

theorem imm_lib {l : LibD} : (encLib l).imm = true := by
  have h1 : imms (l.defs.map encPair) = true := imms_map fun _ _ => rfl
  have h2 : imms (l.uses.map encUse) = true := imms_map fun _ _ => rfl
  show (true && (imms (l.needs.map D.str) && (imms (l.defs.map encPair) && (imms (l.uses.map encUse) && true)))) = true
  rw [imms_strs, h1, h2]
  rfl
theorem imm_prog {P : ProgD} : (encProg P).imm = true := by
  have h1 : imms (P.libs.map encLib) = true := imms_map fun _ _ => imm_lib
  have h2 : imms (P.doors.map encPair) = true := imms_map fun _ _ => rfl
  show (imms (P.libs.map encLib) && (imms (P.pre.map D.str) && (imms (P.doors.map encPair) && true))) = true
  rw [imms_strs, h1, h2]
  rfl
theorem sqT_mono {K : PySem.W.Frag} {H H' : Hp} {q : Addr} {xs : List V} (s : Same H H') (h : SqT K H q xs) : SqT K H' q xs := by
  rcases h with (e | ⟨ob, e⟩) | e
  · exact .inl (.inl (s _ _ e))
  · exact .inl (.inr ⟨ob, s _ _ e⟩)
  · exact .inr e
theorem SqT.beside {K : PySem.W.Frag} {CT : Addr} {H : Hp} {t wA : Addr} {G : ProgD} (x : TAt K CT H t wA G) {b : Addr} {vs : List V} (e : SqT K H b vs) : SqT K (hide H wA) b vs := by
  obtain ⟨es, hw, _⟩ := x.walked
  rcases e with e | e
  · have ne : b ≠ wA := fun z => by
      subst z
      rcases e with e | ⟨_, e⟩ <;> (rw [hw] at e; cases e)
    rcases e with e | ⟨ob', e⟩
    · exact .inl (.inl (by rw [hide_at ne]; exact e))
    · exact .inl (.inr ⟨ob', by rw [hide_at ne]; exact e⟩)
  · exact .inr e
/-- the walked runs hold no cell l -/
def NoL (H : Hp) (wA l : Addr) : Prop := ∀ kvs, H wA = some (.dT kvs) → ∀ kv ∈ kvs, kv.2 ≠ .ref l
section
variable {K : PySem.W.Frag} {CT : Addr} {H H' H7 : Hp} {t wA l : Addr} {G : ProgD}
theorem NoL.start (x : TAt K CT H t wA G) (h : H l = none) : NoL H wA l := by
  intro kvs e kv hkv z
  obtain ⟨es, w1, w2, w3⟩ := x.walked
  rw [w1] at e
  injection e with e
  injection e with e
  subst e
  obtain ⟨e, he, rfl⟩ := List.mem_map.mp hkv
  obtain ⟨_, _, ws, as, a3, _⟩ := w3 e he
  have z' : V.ref e.2.2 = V.ref l := z
  injection z' with z'
  rw [z'] at a3
  have := hide_same _ _ _ _ a3
  rw [h] at this
  cases this
theorem NoL.step {o : HO} (n : NoL H wA l) (h : H l = some o) (T : TStep K CT H t wA G H') : NoL H' wA l := by
  intro kvs e kv hkv z
  rcases T.own kvs e kv hkv l z with ⟨kvs0, e0, h0⟩ | h0
  · exact n kvs0 e0 kv h0 z
  · rw [h] at h0
    cases h0
theorem NoL.put {o : HO} (n : NoL H wA l) (hne : wA ≠ l) : NoL (upd H l o) wA l := by
  intro kvs e
  rw [upd_ne hne] at e
  exact n kvs e
theorem TStep.put {ws ws' : List V} (T : TStep K CT H t wA G H7) (n : NoL H7 wA l) (hl : H l = none) (h7 : H7 l = some (.lst ws)) : TStep K CT H t wA G (upd H7 l (.lst ws')) := by
  obtain ⟨dx, vp, hin, dvp⟩ := T.at_.ins
  obtain ⟨es, w1, w2, w3⟩ := T.at_.walked
  have hwl : wA ≠ l := fun z => by rw [z, h7] at w1; cases w1
  have htl : t ≠ l := fun z => by rw [z, h7] at hin; cases hin
  have eh : hide (upd H7 l (.lst ws')) wA = upd (hide H7 wA) l (.lst ws') := by
    funext a
    by_cases ha : a = wA
    · rw [ha, hide_self, upd_ne hwl, hide_self]
    · rw [hide_at ha]
      by_cases hb : a = l
      · rw [hb, upd_same, upd_same]
      · rw [upd_ne hb, upd_ne hb, hide_at ha]
  have h7' : hide H7 wA l = some (.lst ws) := by rw [hide_at (Ne.symm hwl)]; exact h7
  refine ⟨⟨⟨dx, vp, by rw [upd_ne htl]; exact hin, ?_⟩, es, by rw [upd_ne hwl]; exact w1, w2, fun e he => ?_⟩, ?_, ?_⟩
  · rw [eh]
    exact dvp.keepT (upd_keepT h7') imm_prog
  · obtain ⟨a1, a2, vs, as, a3, a4, a5⟩ := w3 e he
    refine ⟨a1, a2, vs, as, ?_, ?_, a5⟩
    · rw [eh, upd_ne (fun z => n _ w1 (entW e) (List.mem_map.mpr ⟨e, he, rfl⟩) (by show V.ref e.2.2 = _; rw [z]))]
      exact a3
    · rw [eh]
      exact a4.keepT (upd_keepT h7') (imms_map fun _ _ => imm_ans)
  · rw [eh]
    exact hideOf T.same (by rw [hide_at (Ne.symm hwl)]; exact hl)
  · intro kvs e
    rw [upd_ne hwl] at e
    exact T.own kvs e
end
section
variable {X : Cx} {σ : L2.St} {H : Hp} {pos p : Pos} {k : Nat} {a : Expr} {Q : VK}
theorem we_all (oo : Ok X k) (hm : X.mg "all" = none) (h : WE X a σ H fun v H1 => ∃ (l : Addr) (bs : List Bool), v = .ref l ∧ H1 l = some (.lst (bs.map V.bl)) ∧ Q (.bl (bs.all id)) H1) (hg : Gl X "all" := by rfl) (hs : starEach [a] X.env = (false, eval a X.env) :: starEach [] X.env := by rfl) : WE X (.Call (.Name "all" p) [a] [] pos) σ H Q :=
  we_of (pe_callB (cr_all oo.calm) hg hm (by decide +kernel) pa_w (he := hs)) (wa_cons (h.mono fun v H1 ⟨l, bs, e, h1, q⟩ => wa_nil ⟨l, bs, by rw [e], SqL.of h1, q⟩) hs)
end
section
variable {P : Program} {w : World} {K : PySem.W.Frag} {mg : Str → Option Value} {base : Heap} {f : Addr} {fd : FuncData} {k : Nat} {CT : Addr}
abbrev s_Trial_gives_all : Stmt := inClass (top 51) 5
theorem sc_Trial_gives_all : FnScope ["self", "preload", "wanted", "want"] ["self", "preload", "wanted"] (defScope s_Trial_gives_all) := ⟨rfl, rfl, rfl, by decide +kernel, rfl, by decide +kernel, by decide +kernel⟩
def QGivesAll (K : PySem.W.Frag) (CT : Addr) : List V → Hp → VK → Prop := fun vs H Q => ∃ (t wA : Addr) (G : ProgD) (vq : V) (pre : List S) (vw : V) (ws : List WantD), vs = [.ref t, vq, vw] ∧ TAt K CT H t wA G ∧ PT0 G ∧ Dat K (hide H wA) vq (.tup (pre.map D.str)) ∧ Dat K (hide H wA) vw (.tup (ws.map encWant)) ∧ (∀ x ∈ pre, x ∈ names G) ∧ pre.length ≤ 8 ∧ (∀ w ∈ ws, WOk G w) ∧ ws.length ≤ 64 ∧
  ∀ H', TStep K CT H t wA G H' → Q (.bl (givesAll G (aloneG G) pre ws)) H'
theorem ok_Trial_gives_all {kg : Nat} (F : Fun K "gives_all" "Trial.gives_all" s_Trial_gives_all f fd) (c : ClsT K CT) (T : Gb mg) (hk : kg ≤ k) (m_gives : Met P w K mg base kg CT "gives" (spG (QGives K CT))) : FnOk P w K mg base CX0 (k + 1) f fd ["self", "preload", "wanted"] (spG (QGivesAll K CT)) := by
  refine fn_W F sc_Trial_gives_all (fun vs H Q h => ?_) (fun cdv A outer s H E vs Q oo h => ?_)
  · obtain ⟨t, wA, G, vq, pre, vw, ws, rfl, _⟩ := h
    rfl
  · obtain ⟨t, wA, G, vq, pre, vw, ws, rfl, x, pt, dvq, dvw, hsub, hpl, wok, hwl, hQ⟩ := h
    obtain ⟨q, xs, rfl, hq, dxs⟩ : ∃ q xs, vw = .ref q ∧ SqT K (hide H wA) q xs ∧ DatAll K (hide H wA) xs (ws.map encWant) := by
      cases dvw with | tup h1 h2 => exact ⟨_, _, rfl, h1, h2⟩
    have hxl : xs.length = ws.length := by rw [dxs.length, List.length_map]
    refine ws_ret (we_all oo T.all (we_lcT [("want", 3)] oo (blkOk_by rfl) (we_var 2 rfl ⟨q, xs, rfl, sqT_mono (hide_same _ _) hq, fun l hl => ⟨fun i H' => TStep K CT H t wA G H' ∧ NoL H' wA l ∧ H' l = some (.lst (((ws.take i).map (gives G (aloneG G) pre)).map V.bl)), ⟨TStep.grow x (Same.new hl), (NoL.start x hl).put (fun z => by obtain ⟨es, w1, _⟩ := x.walked; rw [← z, w1] at hl; cases hl), upd_same⟩, ?_, ?_, ?_⟩⟩)))
    · rintro i H' hi ⟨T1, _, _⟩
      exact sqT_mono (hide_same _ _) (sqT_mono T1.same hq)
    · rintro i v H6 hv ⟨T6, n6, h6⟩
      obtain ⟨d, hd, dv⟩ := dxs.getV hv
      obtain ⟨wt, hwt, rfl⟩ : ∃ wt, ws[i]? = some wt ∧ encWant wt = d := by
        rw [List.getElem?_map] at hd
        cases hh : ws[i]? with
        | none => rw [hh] at hd; cases hd
        | some z => rw [hh] at hd; exact ⟨z, rfl, Option.some.inj hd⟩
      have hmem := List.mem_of_getElem? hwt
      have hlt := (List.getElem?_eq_some_iff.mp hwt).1
      intro bs bH bC bcl bfp
      refine wg_name 3 oo.blk ⟨rfl, fun bs bH bC bcl bfp => wts_nil (iteT ?_)⟩
      intro bs bH bC bcl bfp
      obtain ⟨dx, vp, hin, _⟩ := T6.at_.ins
      refine we_met m_gives oo.blk hk (we_var 0 rfl ⟨t, rfl, ⟨_, _, hin, rfl⟩, wa_cons (we_var 1 rfl (wa_cons (we_var 3 rfl (wa_nil ⟨t, wA, G, vq, pre, v, wt, rfl, T6.at_, pt, dvq.mono T6.same, dv.mono T6.same, hsub, hpl, wok wt hmem, fun H7 T7 => ?_⟩))))⟩)
      have hwA : l ≠ wA := fun z => by obtain ⟨es, w1, _⟩ := T6.at_.walked; rw [z, w1] at h6; cases h6
      have h7 : H7 l = some (.lst (((ws.take i).map (gives G (aloneG G) pre)).map V.bl)) := hide_same _ _ _ _ (T7.same _ _ (by rw [hide_at hwA]; exact h6))
      refine ⟨_, h7, ?_, (T6.trans x T7).put (n6.step h6 T7) hl h7, (n6.step h6 T7).put (Ne.symm hwA), ?_⟩
      · rw [List.length_map, List.length_map]
        exact Nat.lt_of_le_of_lt (Nat.le_trans (List.length_take_le ..) (Nat.le_of_lt hlt)) (Nat.lt_of_le_of_lt hwl (by decide))
      · rw [upd_same, take_len hwt, List.map_append, List.map_append]
        rfl
    · rintro H6 ⟨T6, _, h6⟩
      rw [hxl, List.take_length] at h6
      refine ⟨l, _, rfl, h6, ?_⟩
      rw [List.all_map]
      exact hQ H6 T6
end
end K74

set_option Elab.async false
set_option linter.all false
set_option maxRecDepth 100000
set_option maxHeartbeats 4000000
/-! K74.KT5: a trial is made. -/
namespace K74
open PySem PySem.Spec PyProof.Rows L2
section
variable {P : Program} {w : World} {K : PySem.W.Frag} {mg : Str → Option Value} {base : Heap} {f : Addr} {fd : FuncData} {k : Nat} {CT : Addr}
abbrev s_Trial_init : Stmt := inClass (top 51) 0
theorem sc_Trial_init : FnScope ["self", "program"] ["self", "program"] (defScope s_Trial_init) := ⟨rfl, rfl, rfl, by decide +kernel, rfl, by decide +kernel, by decide +kernel⟩
def QTrialInit (K : PySem.W.Frag) (CT : Addr) : List V → Hp → VK → Prop := fun vs H Q => ∃ (a dx : Addr) (v : V) (G : ProgD), vs = [.ref a, v] ∧ H a = some (.ins CT dx []) ∧ Dat K (hide H a) v (encProg G) ∧
  ∀ wA H', TAt K CT H' a wA G → Same (hide H a) (hide H' a) → H wA = none → Q .non H'
theorem ok_Trial_init (F : Fun K "__init__" "Trial.__init__" s_Trial_init f fd) (c : ClsT K CT) : FnOk P w K mg base CX0 (k + 1) f fd ["self", "program"] (spG (QTrialInit K CT)) := by
  refine fn_W F sc_Trial_init (fun vs H Q h => ?_) (fun cdv A outer s H E vs Q oo h => ?_)
  · obtain ⟨a, dx, v, G, rfl, _⟩ := h
    rfl
  · obtain ⟨a, dx, v, G, rfl, hin, dv, hQ⟩ := h
    refine ws_sf 0 c.cls c.program rfl (we_var 1 rfl ⟨dx, [], hin, by show 0 < 1000; decide, ?_⟩)
    have e1 : hide (upd H a (.ins CT dx (putF "own_program" v []))) a = hide H a := hide_upd _ _ _
    have hin1 : upd H a (.ins CT dx (putF "own_program" v [])) a = some (.ins CT dx [("own_program", v)]) := upd_same
    have fr : ∀ b, upd H a (.ins CT dx (putF "own_program" v [])) b = none → H b = none := fun b h => by
      have hb : b ≠ a := fun z => by rw [z, hin1] at h; cases h
      rw [upd_ne hb] at h
      exact h
    generalize hH1 : upd H a (.ins CT dx (putF "own_program" v [])) = H1 at e1 hin1 fr ⊢
    refine ws_sf 0 c.cls c.walked rfl (we_of pe_dnewT fun wA hwA => ⟨dx, [("own_program", v)], ?_, by show 1 < 1000; decide, ws_nil ?_⟩)
    · rw [upd_ne (ne_of_none hin1 hwA)]
      exact hin1
    · have hwa : wA ≠ a := Ne.symm (ne_of_none hin1 hwA)
      have e2 : hide (upd (upd H1 wA (.dT [])) a (.ins CT dx (putF "own_walked" (.ref wA) [("own_program", v)]))) a = hide (upd H1 wA (.dT [])) a := hide_upd _ _ _
      have s2 : Same (hide H a) (hide (upd (upd H1 wA (.dT [])) a (.ins CT dx (putF "own_walked" (.ref wA) [("own_program", v)]))) a) := by
        rw [e2, ← e1]
        exact hide_mono (Same.new hwA)
      have w0 : upd (upd H1 wA (.dT [])) a (.ins CT dx (putF "own_walked" (.ref wA) [("own_program", v)])) wA = some (.dT (([] : List EntW).map entW)) := by
        rw [upd_ne hwa, upd_same]
        rfl
      refine hQ wA _ ⟨⟨dx, v, upd_same, ?_⟩, [], w0, List.nodup_nil, fun e he => by cases he⟩ s2 (fr _ hwA)
      have d1 := dv.mono s2
      have d2 := d1.mono (hide_same _ _)
      refine Dat.keep2 (fun b vs e => ?_) (fun b vs e => ?_) d2
      · have ne : b ≠ wA := fun z => by subst z; rw [w0] at e; cases e
        rw [hide_at ne]
        exact e
      · rcases e with e | e
        · have ne : b ≠ wA := fun z => by
            subst z
            rcases e with e | ⟨_, e⟩ <;> (rw [w0] at e; cases e)
          rcases e with e | ⟨ob', e⟩
          · exact .inl (.inl (by rw [hide_at ne]; exact e))
          · exact .inl (.inr ⟨ob', by rw [hide_at ne]; exact e⟩)
        · exact .inr e
end
end K74

set_option Elab.async false
set_option linter.all false
set_option maxRecDepth 100000
set_option maxHeartbeats 4000000
/-! K74.KT6: is_possible. -/
namespace K74
open PySem PySem.Spec PyProof.Rows L2
def linesM (ns : List S) : List (List S) := (List.range (ns.length + 1)).flatMap fun m => rowsM ns m
def possibleM (G : ProgD) (ws : List WantD) : Bool := (linesM (namesIn G ws)).any fun l => givesAll G (aloneG G) l ws
theorem rowsM_sub {ns : List S} {m : Nat} : ∀ l ∈ rowsM ns m, ∀ x ∈ l, x ∈ ns := by
  induction m with
  | zero => intro l hl; simp [rowsM] at hl; subst hl; intro x hx; cases hx
  | succ m ih =>
    intro l hl x hx
    unfold rowsM at hl
    obtain ⟨l0, h0, h1⟩ := List.mem_flatMap.mp hl
    obtain ⟨n, hn, rfl⟩ := List.mem_map.mp h1
    rcases List.mem_append.mp hx with h | h
    · exact ih l0 h0 x h
    · have : x = n := by simpa using h
      rw [this]
      exact (List.mem_filter.mp hn).1
theorem rowsM_c4 {ns : List S} {m : Nat} (h : ns.length ≤ 4) (hm : m ≤ 4) : (rowsM ns m).length ≤ 256 :=
  Nat.le_trans rowsM_count (Nat.le_trans (Nat.pow_le_pow_left h m) (Nat.pow_le_pow_right (n := 4) (by decide) hm))
theorem flat_len {α : Type} {xs : List Nat} {f : Nat → List α} {c : Nat} (h : ∀ x ∈ xs, (f x).length ≤ c) : (xs.flatMap f).length ≤ xs.length * c := by
  rw [List.length_flatMap]
  induction xs with
  | nil => simp
  | cons x r ih =>
    rw [List.map_cons, List.sum_cons, List.length_cons, Nat.succ_mul, Nat.add_comm]
    exact Nat.add_le_add (ih fun y hy => h y (List.mem_cons_of_mem _ hy)) (h x List.mem_cons_self)
theorem linesM_mem {ns : List S} {l : List S} (h : l ∈ linesM ns) : (∀ x ∈ l, x ∈ ns) ∧ l.length ≤ ns.length := by
  obtain ⟨m, hm, h1⟩ := List.mem_flatMap.mp h
  have := List.mem_range.mp hm
  exact ⟨rowsM_sub l h1, by rw [rowsM_len l h1]; omega⟩
theorem linesM_len {ns : List S} (h : ns.length ≤ 4) : (linesM ns).length ≤ 1280 := by
  refine Nat.le_trans (flat_len (c := 256) fun m hm => rowsM_c4 h (by have := List.mem_range.mp hm; omega)) ?_
  rw [List.length_range]
  omega
theorem namesIn_sub {G : ProgD} {ws : List WantD} : ∀ n ∈ namesIn G ws, n ∈ others G := by
  intro n hn
  unfold namesIn at hn
  exact (List.mem_filter.mp hn).1
theorem namesIn_len {G : ProgD} {ws : List WantD} : (namesIn G ws).length ≤ (others G).length := by
  unfold namesIn
  exact List.length_filter_le ..
section
variable {X : Cx} {σ : L2.St} {H : Hp} {pos p : Pos} {k : Nat} {a : Expr} {Q : VK}
theorem we_any (oo : Ok X k) (hm : X.mg "any" = none) (h : WE X a σ H fun v H1 => ∃ (l : Addr) (bs : List Bool), v = .ref l ∧ H1 l = some (.lst (bs.map V.bl)) ∧ Q (.bl (bs.any id)) H1) (hg : Gl X "any" := by rfl) (hs : starEach [a] X.env = (false, eval a X.env) :: starEach [] X.env := by rfl) : WE X (.Call (.Name "any" p) [a] [] pos) σ H Q :=
  we_of (pe_callB (cr_any oo.calm) hg hm (by decide +kernel) pa_w (he := hs)) (wa_cons (h.mono fun v H1 ⟨l, bs, e, h1, q⟩ => wa_nil ⟨l, bs, by rw [e], SqL.of h1, q⟩) hs)
end
section
variable {P : Program} {w : World} {K : PySem.W.Frag} {mg : Str → Option Value} {base : Heap} {f : Addr} {fd : FuncData} {k : Nat} {CT : Addr}
abbrev s_Trial_is_possible : Stmt := inClass (top 51) 6
theorem sc_Trial_is_possible : FnScope ["self", "wanted", "names", "some", "many", "line"] ["self", "wanted"] (defScope s_Trial_is_possible) := ⟨rfl, rfl, rfl, by decide +kernel, rfl, by decide +kernel, by decide +kernel⟩
def QPossible (K : PySem.W.Frag) (CT : Addr) : List V → Hp → VK → Prop := fun vs H Q => ∃ (t wA : Addr) (G : ProgD) (vw : V) (ws : List WantD), vs = [.ref t, vw] ∧ TAt K CT H t wA G ∧ PT0 G ∧ Dat K (hide H wA) vw (.tup (ws.map encWant)) ∧ (others G).length ≤ 4 ∧ (∀ w ∈ ws, WOk G w) ∧ ws.length ≤ 64 ∧
  ∀ H', TStep K CT H t wA G H' → Q (.bl (possibleM G ws)) H'
theorem ok_Trial_is_possible {kg : Nat} (F : Fun K "is_possible" "Trial.is_possible" s_Trial_is_possible f fd) (c : ClsT K CT) (T : Gb mg) (hk : kg ≤ k ∧ 2 ≤ k) (c_names_in : Cal P w K mg base 2 "names_in" (spN K RNamesIn)) (c_rows_of_names : Cal P w K mg base 1 "rows_of_names" (spN K RRowsOf)) (m_gives_all : Met P w K mg base kg CT "gives_all" (spG (QGivesAll K CT))) : FnOk P w K mg base CX0 (k + 1) f fd ["self", "wanted"] (spG (QPossible K CT)) := by
  refine fn_W F sc_Trial_is_possible (fun vs H Q h => ?_) (fun cdv A outer s H E vs Q oo h => ?_)
  · obtain ⟨t, wA, G, vw, ws, rfl, _⟩ := h
    rfl
  · obtain ⟨t, wA, G, vw, ws, rfl, x, pt, dvw, hol, wok, hwl, hQ⟩ := h
    obtain ⟨dx, vp, hin, dvp⟩ := x.ins
    have dvp0 := dvp.mono (hide_same _ _)
    have dvw0 := dvw.mono (hide_same _ _)
    have hnl : (namesIn G ws).length ≤ 4 := Nat.le_trans namesIn_len hol
    refine ws_set 2 oo (we_en (en_call c_names_in oo hk.2 (ea_cons (ee_fld (C := CT) (ee_var 0 rfl) ⟨dx, _, vp, hin, c.cls, c.program, rfl, dvp0⟩) (ea_cons (ee_var 1 rfl) ea_nil)) (fun _ _ => ⟨G, ws, rfl, rfl, pt.sz, hwl, fun w hw => (wok w hw).ans⟩)) (ρ := [some (.raw (.ref t)), some (.tup (ws.map encWant)), none, none, none, none]) (.cons (.raw _) (.cons dvw0 (.skip (.skip (.skip (.skip .nil)))))) fun ln wn H1 hln s1 h1 hd1 => ?_)
    refine ws_setLc2 3 oo (lc2_mk (xs := List.range ((namesIn G ws).length + 1)) (enc := fun (i : Nat) => .int (i : Int)) (p := fun _ => true) (ys := fun m => rowsM (namesIn G ws) m) (enc1 := fun _ l => encLine l) (p1 := fun _ _ => true) (f := fun _ l => encLine l) (ρ := [some (.raw (.ref t)), some (.tup (ws.map encWant)), some (.lst ((namesIn G ws).map D.str)), none, none, none]) (blkOk_by rfl) (by decide) (si_range T.range (ee_op od_addI (ee_len T.len (ee_var 2 rfl) len_mapL) ee_int) (by omega)) (fun _ _ _ _ _ => pg_name (i := 4) oo.nd rfl (Or.inl rfl)) (fun _ _ _ _ _ x hx => ets_nil)
      (fun _ _ _ _ _ => el1_new fun x hx => en_call c_rows_of_names oo.blk (by omega) (ea_cons (ee_var 2 rfl) (ea_cons (ee_var 4 rfl) ea_nil)) (fun _ _ => ⟨namesIn G ws, x, rfl, rfl, hnl, by have := List.mem_range.mp hx.1; omega⟩)) (fun _ _ _ _ _ => pg_name (i := 5) oo.nd rfl (Or.inl rfl)) (fun _ _ _ _ _ x y hx hp hy => ets_nil) (fun _ _ _ _ _ x y hx hp hy hq => (ee_var 5 rfl)) ⟨.inl rfl, .inl rfl⟩ (fun x hx => rfl) (fun x hx y hy => imms_strs) (fun x hx y hy => imms_strs) (by
        rw [List.filter_eq_self.mpr (fun _ _ => rfl)]
        exact Nat.lt_of_le_of_lt (linesM_len hnl) (by decide))) (.cons (.raw _) (.cons (dvw0.mono s1) (.cons (.lst h1 hd1) (.skip (.skip (.skip .nil)))))) fun ls xs H2 hls s2 h2 hd2 => ?_
    have s12 := s1.trans s2
    have x2 := x.mono s12
    have dvw2 := dvw.mono (hide_mono (a := wA) s12)
    have el : (((List.range ((namesIn G ws).length + 1)).filter fun _ => true).flatMap fun m => ((rowsM (namesIn G ws) m).filter fun _ => true).map fun l => encLine l) = (linesM (namesIn G ws)).map encLine := by
      rw [List.filter_eq_self.mpr (fun _ _ => rfl), linesM, List.map_flatMap]
      congr 1
      funext m
      rw [List.filter_eq_self.mpr (fun _ _ => rfl)]
    rw [el] at hd2
    have hls2 : hide H2 wA ls = some (.lst xs) := x2.lst h2
    have dxs := x2.besides hd2
    have hxl : xs.length = (linesM (namesIn G ws)).length := by rw [dxs.length, List.length_map]
    refine ws_ret (we_any oo T.any (we_lcL [("line", 5)] oo (blkOk_by rfl) (we_var 3 rfl ⟨ls, xs, rfl, SqL.of h2, fun l hl => ⟨fun i H' => TStep K CT H2 t wA G H' ∧ NoL H' wA l ∧ H' l = some (.lst ((((linesM (namesIn G ws)).take i).map fun l => givesAll G (aloneG G) l ws).map V.bl)), ⟨TStep.grow x2 (Same.new hl), (NoL.start x2 hl).put (fun z => by obtain ⟨es, w1, _⟩ := x2.walked; rw [← z, w1] at hl; cases hl), upd_same⟩, ?_, ?_, ?_⟩⟩)))
    · rintro i H' hi ⟨T1, _, _⟩
      exact SqL.of (hide_same _ _ _ _ (T1.same _ _ hls2))
    · rintro i v H6 hv ⟨T6, n6, h6⟩
      obtain ⟨d, hd, dv⟩ := dxs.getV hv
      obtain ⟨ln', hwt, rfl⟩ : ∃ z, (linesM (namesIn G ws))[i]? = some z ∧ encLine z = d := by
        rw [List.getElem?_map] at hd
        cases hh : (linesM (namesIn G ws))[i]? with
        | none => rw [hh] at hd; cases hd
        | some z => rw [hh] at hd; exact ⟨z, rfl, Option.some.inj hd⟩
      have hmem := linesM_mem (List.mem_of_getElem? hwt)
      have hlt := (List.getElem?_eq_some_iff.mp hwt).1
      intro bs bH bC bcl bfp
      refine wg_name 5 oo.blk ⟨rfl, fun bs bH bC bcl bfp => wts_nil (iteT ?_)⟩
      intro bs bH bC bcl bfp
      obtain ⟨dx6, vp6, hin6, _⟩ := T6.at_.ins
      refine we_met m_gives_all oo.blk hk.1 (we_var 0 rfl ⟨t, rfl, ⟨_, _, hin6, rfl⟩, wa_cons (we_var 5 rfl (wa_cons (we_var 1 rfl (wa_nil ⟨t, wA, G, v, ln', vw, ws, rfl, T6.at_, pt, dv.mono T6.same, dvw2.mono T6.same, fun y hy => others_sub (namesIn_sub y (hmem.1 y hy)), by omega, wok, hwl, fun H7 T7 => ?_⟩))))⟩)
      have hwA : l ≠ wA := fun z => by obtain ⟨es, w1, _⟩ := T6.at_.walked; rw [z, w1] at h6; cases h6
      have h7 := hide_same _ _ _ _ (T7.same _ _ (by rw [hide_at hwA]; exact h6))
      refine ⟨_, h7, ?_, (T6.trans x2 T7).put (n6.step h6 T7) hl h7, (n6.step h6 T7).put (Ne.symm hwA), ?_⟩
      · rw [List.length_map, List.length_map]
        exact Nat.lt_of_le_of_lt (Nat.le_trans (List.length_take_le ..) (Nat.le_of_lt hlt)) (Nat.lt_of_le_of_lt (linesM_len hnl) (by decide))
      · rw [upd_same, take_len hwt, List.map_append, List.map_append]
        rfl
    · rintro H6 ⟨T6, _, h6⟩
      rw [hxl, List.take_length] at h6
      refine ⟨l, _, rfl, h6, ?_⟩
      rw [List.any_map]
      exact hQ H6 ((TStep.grow x s12).trans x T6)
end
end K74

set_option Elab.async false
set_option linter.all false
set_option maxRecDepth 100000
set_option maxHeartbeats 4000000
/-! K74.KT7: Trial(program); the lines that give all; many_preloads, least_preload. -/
namespace K74
open PySem PySem.Spec PyProof.Rows L2
section
variable {X : Cx} {σ : L2.St} {H : Hp} {pos p : Pos} {k j : Nat} {e : Expr} {Q : VK} {CT : Addr}
theorem we_trial (c : Mak X.prog X.w X.K X.mg X.base k "Trial" CT (spG (QTrialInit X.K CT))) (o : Ok X j) (hk : k + 1 ≤ j) (ha : WE X e σ H fun v H1 => ∃ G, Dat X.K H1 v (encProg G) ∧ ∀ t wA H', Same H1 H' → H1 wA = none → TAt X.K CT H' t wA G → Q (.ref t) H') (hg : Gl X "Trial" := by rfl)
    (he : starEach [e] X.env = (false, eval e X.env) :: starEach [] X.env := by rfl) (hpl : (backTo pos (starEach [] X.env)).any (·.1) = false := by rfl) : WE X (.Call (.Name "Trial" p) [e] [] pos) σ H Q := by
  refine we_mak c o hk (wa_cons (ha.mono fun v H1 ⟨G, dv, q⟩ => wa_nil fun l dx hl hdx hne => ?_) he) hg (by decide) he hpl
  have s0 : Same H1 (upd (upd H1 dx (.own l)) l (.ins CT dx [])) := (Same.new hdx).trans (Same.new (by rw [upd_ne (Ne.symm hne)]; exact hl))
  have sh : Same H1 (hide (upd (upd H1 dx (.own l)) l (.ins CT dx [])) l) := fun b u eb => by
    rw [hide_at (ne_of_none eb hl)]
    exact s0 _ _ eb
  refine ⟨l, dx, v, G, rfl, upd_same, dv.mono sh, fun wA H' x s hw => ⟨rfl, q l wA H' ?_ (s0.free hw) x⟩⟩
  exact (sh.trans s).trans (hide_same _ _)
end
section
variable {X : Cx} {σ : L2.St} {H : Hp} {pos : Pos} {k : Nat} {Q : VK}
/-- the lines, of which a condition that may write into the memory keeps some -/
theorem we_lines {elt tg iter c : Expr} {scope : Scope} {x : S} {i : Nat} {CT t wA : Addr} {G : ProgD} {ls : List (List S)} {g : List S → Bool} (oo : Ok X k) (ok : BlkOk X.N X.env.scope scope [(x, i)])
    (h : WE X iter σ H fun v H1 => ∃ (q : Addr) (xs : List V), v = .ref q ∧ TAt X.K CT H1 t wA G ∧ H1 q = some (.lst xs) ∧ DatAll X.K H1 xs (ls.map encLine) ∧ ls.length ≤ 1280 ∧
      (∀ l ∈ ls, ∀ (v : V) (H6 : Hp) (Nx : L2.St → Bool → Hp → Prop), TStep X.K CT H1 t wA G H6 → Dat X.K (hide H6 wA) v (encLine l) → (∀ (σ2 : L2.St) (H7 : Hp), TStep X.K CT H6 t wA G H7 → wipe σ2 [i] = wipe σ [i] → σ2[i]? = some (some v) → Nx σ2 (g l) H7) →
        gB X scope tg v (wipe σ [i]) H6 fun σ2 H2 => wipe σ2 [i] = wipe σ [i] ∧ tB' X scope [c] σ2 H2 fun b H3 => Nx σ2 b H3) ∧
      (∀ (σ2 : L2.St) (v : V) (H7 : Hp) (Q' : VK), σ2[i]? = some (some v) → Q' v H7 → eB X scope elt σ2 H7 Q') ∧
      ∀ (lr : Addr) (wr : List V) (H' : Hp), TStep X.K CT H1 t wA G H' → H' lr = some (.lst wr) → DatAll X.K (hide H' wA) wr ((ls.filter g).map encLine) → Q (.ref lr) H') (hs : ∀ x, foldedSetIterable iter X.env x = pure x := by intro _; rfl) :
    WE X (.ListComp elt [⟨tg, iter, [c], 0⟩] scope pos) σ H Q := by
  refine we_lcL [(x, i)] oo ok (h.mono fun v H1 ⟨q, xs, e1, x1, hq, dxs0, hln, hturn, helt, hQ⟩ => ⟨q, xs, e1, SqL.of hq, fun l hl => ⟨fun j H' => TStep X.K CT H1 t wA G H' ∧ NoL H' wA l ∧ ∃ wr, H' l = some (.lst wr) ∧ DatAll X.K (hide H' wA) wr (((ls.take j).filter g).map encLine), ⟨TStep.grow x1 (Same.new hl), (NoL.start x1 hl).put (fun z => by obtain ⟨es, w1, _⟩ := x1.walked; rw [← z, w1] at hl; cases hl), [], upd_same, .nil⟩, ?_, ?_, ?_⟩⟩) hs
  · rintro j H' hj ⟨T1, _, _⟩
    exact SqL.of (hide_same _ _ _ _ (T1.same _ _ (x1.lst hq)))
  · rintro j v H6 hv ⟨T6, n6, wr, h6, d6⟩
    have dxs := x1.besides dxs0
    obtain ⟨d, hd, dv⟩ := dxs.getV hv
    obtain ⟨ln, hwt, rfl⟩ : ∃ z, ls[j]? = some z ∧ encLine z = d := by
      rw [List.getElem?_map] at hd
      cases hh : ls[j]? with
      | none => rw [hh] at hd; cases hd
      | some z => rw [hh] at hd; exact ⟨z, rfl, Option.some.inj hd⟩
    have hlt := (List.getElem?_eq_some_iff.mp hwt).1
    have hwA : l ≠ wA := fun z => by obtain ⟨es, w1, _⟩ := T6.at_.walked; rw [z, w1] at h6; cases h6
    refine hturn ln (List.mem_of_getElem? hwt) v H6 (fun σ2 b H3 => if b = true then eB X scope elt σ2 H3 fun y H4 => ∃ acc, H4 l = some (.lst acc) ∧ acc.length < sizeLine ∧ _ else _) T6 (dv.mono T6.same) fun σ2 H7 T7 hσ hσi => ?_
    have h7 := hide_same _ _ _ _ (T7.same _ _ (by rw [hide_at hwA]; exact h6))
    have h7' : hide H7 wA l = some (.lst wr) := by rw [hide_at hwA]; exact h7
    have d7 := d6.mono T7.same
    have ef : ((ls.take (j + 1)).filter g).map encLine = ((ls.take j).filter g).map encLine ++ (if g ln = true then [encLine ln] else []) := by
      rw [take_len hwt, List.filter_append, List.map_append]
      congr 1
      cases hg : g ln with
      | true => simp [hg]
      | false => simp [hg]
    cases hg : g ln with
    | false =>
      refine iteF ⟨T6.trans x1 T7, n6.step h6 T7, wr, h7, ?_⟩
      rw [ef, hg]
      rw [if_neg (by decide), List.append_nil]
      exact d7
    | true =>
      refine iteT (helt σ2 v H7 _ hσi ⟨wr, h7, ?_, (T6.trans x1 T7).put (n6.step h6 T7) hl h7, (n6.step h6 T7).put (Ne.symm hwA), _, upd_same, ?_⟩)
      · rw [d6.length, List.length_map]
        exact Nat.lt_of_le_of_lt (Nat.le_trans (List.length_filter_le ..) (Nat.le_trans (List.length_take_le ..) (Nat.le_of_lt hlt))) (Nat.lt_of_le_of_lt hln (by decide))
      · rw [ef, hg, if_pos rfl]
        have eh : hide (upd H7 l (.lst (wr ++ [v]))) wA = upd (hide H7 wA) l (.lst (wr ++ [v])) := by
          funext a
          by_cases ha : a = wA
          · rw [ha, hide_self, upd_ne (Ne.symm hwA), hide_self]
          · rw [hide_at ha]
            by_cases hb : a = l
            · rw [hb, upd_same, upd_same]
            · rw [upd_ne hb, upd_ne hb, hide_at ha]
        rw [eh]
        have kT := upd_keepT (K := X.K) (o := .lst (wr ++ [v])) h7'
        exact (DatAll.keepT kT d7 (imms_map fun _ _ => imms_strs)).append (.one (Dat.keepT kT ((dv.mono T6.same).mono T7.same) imms_strs))
  · rintro H6 ⟨T6, _, wr, h6, d6⟩
    have hxl : xs.length = ls.length := by rw [dxs0.length, List.length_map]
    rw [hxl, List.take_length] at d6
    exact hQ l wr H6 T6 h6 d6
end
end K74

set_option Elab.async false
set_option linter.all false
set_option maxRecDepth 100000
set_option maxHeartbeats 4000000
/-! K74.KT8: many_preloads. -/
namespace K74
open PySem PySem.Spec PyProof.Rows L2
theorem sameOf {K : PySem.W.Frag} {CT : Addr} {H H1 H' : Hp} {t wA : Addr} {G : ProgD} (s : Same H H1) (hw : H wA = none) (T : TStep K CT H1 t wA G H') : Same H H' := fun b o e => by
  have ne : b ≠ wA := ne_of_none e hw
  exact hide_same _ _ _ _ (T.same _ _ (by rw [hide_at ne]; exact s _ _ e))
section
variable {X : Cx} {σ : L2.St} {H : Hp} {pos p : Pos} {k : Nat} {a : Expr} {Q : VK}
theorem we_lenL (hm : X.mg "len" = none) (h : WE X a σ H fun v H1 => ∃ (l : Addr) (xs : List V), v = .ref l ∧ H1 l = some (.lst xs) ∧ Q (.int xs.length) H1) (hg : Gl X "len" := by rfl) (hs : starEach [a] X.env = (false, eval a X.env) :: starEach [] X.env := by rfl) : WE X (.Call (.Name "len" p) [a] [] pos) σ H Q :=
  we_of (pe_callB call_len_seq hg hm PySem.boot_len pa_w (he := hs)) (wa_cons (h.mono fun v H1 ⟨l, xs, e, h1, q⟩ => wa_nil ⟨l, xs, by rw [e], Or.inl (SqL.of h1), q⟩) hs)
end
section
variable {P : Program} {w : World} {K : PySem.W.Frag} {mg : Str → Option Value} {base : Heap} {f : Addr} {fd : FuncData} {k : Nat} {CT : Addr}
abbrev s_many_preloads : Stmt := top 58
theorem sc_many_preloads : FnScope ["program", "wanted", "many", "trial", "line"] ["program", "wanted", "many"] (defScope s_many_preloads) := ⟨rfl, rfl, rfl, by decide +kernel, rfl, by decide +kernel, by decide +kernel⟩
def manyM (G : ProgD) (ws : List WantD) (m : Nat) : Nat := ((rowsM (others G) m).filter fun l => givesAll G (aloneG G) l ws).length
def QMany (K : PySem.W.Frag) : List V → Hp → VK → Prop := fun vs H Q => ∃ (v0 v1 : V) (G : ProgD) (ws : List WantD) (m : Nat), vs = [v0, v1, .int (m : Int)] ∧ Dat K H v0 (encProg G) ∧ Dat K H v1 (.tup (ws.map encWant)) ∧ PT0 G ∧ (others G).length ≤ 4 ∧ (∀ w ∈ ws, WOk G w) ∧ ws.length ≤ 64 ∧ m ≤ 4 ∧
  ∀ H', Same H H' → Q (.int (manyM G ws m : Nat)) H'
theorem ok_many_preloads {kl kt kg : Nat} (F : Fun K "many_preloads" "many_preloads" s_many_preloads f fd) (T : Gb mg) (hk : kl ≤ k ∧ kt + 1 ≤ k ∧ kg ≤ k ∧ 1 ≤ k) (c_looked : Cal P w K mg base kl "looked" (spP K RLooked)) (c_Trial : Mak P w K mg base kt "Trial" CT (spG (QTrialInit K CT))) (c_others_of : Cal P w K mg base 1 "others_of" (spN K ROthers)) (c_rows_of_names : Cal P w K mg base 1 "rows_of_names" (spN K RRowsOf)) (m_gives_all : Met P w K mg base kg CT "gives_all" (spG (QGivesAll K CT))) : FnOk P w K mg base CX0 (k + 1) f fd ["program", "wanted", "many"] (spG (QMany K)) := by
  refine fn_W F sc_many_preloads (fun vs H Q h => ?_) (fun cdv A outer s H E vs Q oo h => ?_)
  · obtain ⟨v0, v1, G, ws, m, rfl, _⟩ := h
    rfl
  · obtain ⟨v0, v1, G, ws, m, rfl, d0, d1, pt, hol, wok, hwl, hm, hQ⟩ := h
    refine ws_asg (we_ee (ee_call c_looked oo hk.1 (ea_cons (ee_var 0 rfl) (ea_cons (ee_var 1 rfl) ea_nil)) (fun _ _ => ⟨G, ws, rfl, rfl, pt.sz, hwl, wok⟩)) (ρ := [some (encProg G), some (.tup (ws.map encWant)), none, none, none]) (.cons d0 (.cons d1 (.skip (.skip (.skip .nil))))) fun v H1 s1 dv => ?_)
    obtain ⟨q, u0, u1, rfl, hq, e0, e1⟩ : ∃ q u0 u1, v = .ref q ∧ SqT K H1 q [u0, u1] ∧ Dat K H1 u0 (encProg G) ∧ Dat K H1 u1 (.tup (ws.map encWant)) := by
      cases dv with
      | tup h1 h2 =>
        cases h2 with
        | cons a1 h2 =>
          cases h2 with
          | cons a2 h2 =>
            cases h2
            exact ⟨_, _, _, rfl, h1, a1, a2⟩
    refine wg_two 0 1 oo hq ?_
    refine ws_set 3 oo (we_trial c_Trial oo hk.2.1 (we_var 0 rfl ⟨G, e0, fun t wA H2 s2 hwA x => ?_⟩))
    have e02 := e0.mono s2
    have e12 := e1.mono s2
    refine ws_ret (we_lenL T.len (we_lines (x := "line") (i := 4) (t := t) (wA := wA) (G := G) (ls := rowsM (others G) m) (g := fun l => givesAll G (aloneG G) l ws) oo (blkOk_by rfl) (we_en (en_call c_rows_of_names oo hk.2.2.2 (ea_cons (ee_callN c_others_of oo hk.2.2.2 (ea_cons (ee_var 0 rfl) ea_nil) (fun _ _ => ⟨G, rfl, rfl, pt.sz⟩)) (ea_cons (ee_var 2 rfl) ea_nil)) (fun _ _ => ⟨others G, m, rfl, rfl, hol, by omega⟩)) (ρ := [some (encProg G), none, some (.int (m : Nat)), none, none]) (.cons e02 (.skip (.cons (.int _) (.skip (.skip .nil))))) fun lr xs H3 hlr s3 h3 d3 => ⟨lr, xs, rfl, x.mono s3, h3, d3, Nat.le_trans (rowsM_c4 hol hm) (by decide), ?_, ?_, ?_⟩)))
    · intro l hl v H6 Nx T6 dv6 hN
      intro bs bH bC bcl bfp
      refine wg_name 4 oo.blk ⟨rfl, ?_⟩
      intro bs bH bC bcl bfp
      obtain ⟨dx6, vp6, hin6, _⟩ := T6.at_.ins
      refine wts_one (wt_of (pt_val pe_w (fun _ => rfl)) (we_met m_gives_all oo.blk hk.2.2.1 (we_var 3 rfl ⟨t, rfl, ⟨_, _, hin6, rfl⟩, wa_cons (we_var 4 rfl (wa_cons (we_var 1 rfl (wa_nil ⟨t, wA, G, v, l, u1, ws, rfl, T6.at_, pt, dv6, ((x.mono s3).beside (e12.mono s3)).mono T6.same, fun y hy => others_sub (rowsM_sub l hl y hy), by rw [rowsM_len l hl]; omega, wok, hwl, fun H7 T7 => ⟨_, rfl, hN _ H7 T7 (by rfl) (by rfl)⟩⟩))))⟩)))
    · intro σ2 v H7 Q' hσ hq'
      intro bs bH bC bcl bfp
      exact we_var 4 hσ hq'
    · intro lr wr H' T' hlr hd'
      refine ⟨lr, wr, rfl, hlr, ?_⟩
      rw [hd'.length, List.length_map]
      exact hQ H' (s1.trans (sameOf (s2.trans s3) hwA T'))
end
end K74

set_option Elab.async false
set_option linter.all false
set_option maxRecDepth 100000
set_option maxHeartbeats 4000000
/-! K74.KT7S: as we_lines, but assigned on one line (the swap). -/
namespace K74
open PySem PySem.Spec PyProof.Rows L2
section
variable {X : Cx} {σ : L2.St} {H : Hp} {pos p p' : Pos} {k : Nat} {Dn : Ends} {rest : List Stmt} {y : S}
theorem ws_lcL (i0 : Nat) {elt tg iter : Expr} {ifs : List Expr} {scope : Scope} (own : List (S × Nat)) (oo : Ok X k) (ok : BlkOk X.N X.env.scope scope own) (h : WE X iter σ H fun v H1 => ∃ (q : Addr) (xs : List V), v = .ref q ∧ SqL X.K H1 q xs ∧ ∀ l, H1 l = none → ∃ Pv : Nat → Hp → Prop, Pv 0 (upd H1 l (.lst [])) ∧ (∀ i H, i ≤ xs.length → Pv i H → SqL X.K H q xs) ∧
      (∀ i x H, xs[i]? = some x → Pv i H → Turn1 X scope elt tg ifs (own.map (·.2)) σ l x H (Pv (i + 1))) ∧ ∀ H, Pv xs.length H → WS X rest Dn (σ.set i0 (some (.ref l))) H) (hy : X.N[i0]? = some y) (hyl : X.env.scope.names.lookup y = some .local)
    (hsw : swapsWith (.ListComp elt [⟨tg, iter, ifs, 0⟩] scope p) (some (.Name y p')) pos.line X.env = pure true) (hs : ∀ x, foldedSetIterable iter X.env x = pure x) : WS X (.Assign [.Name y p'] (.ListComp elt [⟨tg, iter, ifs, 0⟩] scope p) pos :: rest) Dn σ H :=
  wss_of (pss_cons (ps_setLc (g := gB X scope tg) (tt := tB' X scope ifs) (te := eB X scope elt) oo.calm oo.nd hy hyl hsw (pi_list pe_w) ok (fun s H C cl fp => ⟨fun pins s1 σ1 H1 v u Q I r h => (h s H C cl fp).run pins s1 u I r⟩) (fun s H C cl fp => ⟨fun pins s1 σ1 H1 Q I h => (h s H C cl fp).run pins s1 I⟩) (fun s H C cl fp => ⟨fun pins s1 σ1 H1 Q I h => (h s H C cl fp).run pins s1 I⟩) hs) pss_w) (h.mono fun v H1 ⟨q, xs, e, hx, hh⟩ => ⟨q, e, ⟨xs, hx⟩, fun l hl => by
    obtain ⟨Pv, h0, h1, h2, h3⟩ := hh l hl
    exact lc_list (Qd := fun H1 => gName i0 (.ref l) σ H1 (WS X rest Dn)) Pv h0 h1 h2 h3⟩)
/-- the lines, of which a condition that may write into the memory keeps some -/
theorem ws_lines (i0 : Nat) {elt tg iter c : Expr} {scope : Scope} {x : S} {i : Nat} {CT t wA : Addr} {G : ProgD} {ls : List (List S)} {g : List S → Bool} (oo : Ok X k) (ok : BlkOk X.N X.env.scope scope [(x, i)])
    (h : WE X iter σ H fun v H1 => ∃ (q : Addr) (xs : List V), v = .ref q ∧ TAt X.K CT H1 t wA G ∧ H1 q = some (.lst xs) ∧ DatAll X.K H1 xs (ls.map encLine) ∧ ls.length ≤ 1280 ∧
      (∀ l ∈ ls, ∀ (v : V) (H6 : Hp) (Nx : L2.St → Bool → Hp → Prop), TStep X.K CT H1 t wA G H6 → Dat X.K (hide H6 wA) v (encLine l) → (∀ (σ2 : L2.St) (H7 : Hp), TStep X.K CT H6 t wA G H7 → wipe σ2 [i] = wipe σ [i] → σ2[i]? = some (some v) → Nx σ2 (g l) H7) →
        gB X scope tg v (wipe σ [i]) H6 fun σ2 H2 => wipe σ2 [i] = wipe σ [i] ∧ tB' X scope [c] σ2 H2 fun b H3 => Nx σ2 b H3) ∧
      (∀ (σ2 : L2.St) (v : V) (H7 : Hp) (Q' : VK), σ2[i]? = some (some v) → Q' v H7 → eB X scope elt σ2 H7 Q') ∧
      ∀ (lr : Addr) (wr : List V) (H' : Hp), TStep X.K CT H1 t wA G H' → H' lr = some (.lst wr) → DatAll X.K (hide H' wA) wr ((ls.filter g).map encLine) → WS X rest Dn (σ.set i0 (some (.ref lr))) H') (hy : X.N[i0]? = some y := by rfl) (hyl : X.env.scope.names.lookup y = some .local := by rfl)
    (hsw : swapsWith (.ListComp elt [⟨tg, iter, [c], 0⟩] scope p) (some (.Name y p')) pos.line X.env = pure true := by exact sw_true rfl rfl rfl (by decide +kernel)) (hs : ∀ x, foldedSetIterable iter X.env x = pure x := by intro _; rfl) :
    WS X (.Assign [.Name y p'] (.ListComp elt [⟨tg, iter, [c], 0⟩] scope p) pos :: rest) Dn σ H := by
  refine ws_lcL i0 [(x, i)] oo ok (h.mono fun v H1 ⟨q, xs, e1, x1, hq, dxs0, hln, hturn, helt, hQ⟩ => ⟨q, xs, e1, SqL.of hq, fun l hl => ⟨fun j H' => TStep X.K CT H1 t wA G H' ∧ NoL H' wA l ∧ ∃ wr, H' l = some (.lst wr) ∧ DatAll X.K (hide H' wA) wr (((ls.take j).filter g).map encLine), ⟨TStep.grow x1 (Same.new hl), (NoL.start x1 hl).put (fun z => by obtain ⟨es, w1, _⟩ := x1.walked; rw [← z, w1] at hl; cases hl), [], upd_same, .nil⟩, ?_, ?_, ?_⟩⟩) hy hyl hsw hs
  · rintro j H' hj ⟨T1, _, _⟩
    exact SqL.of (hide_same _ _ _ _ (T1.same _ _ (x1.lst hq)))
  · rintro j v H6 hv ⟨T6, n6, wr, h6, d6⟩
    have dxs := x1.besides dxs0
    obtain ⟨d, hd, dv⟩ := dxs.getV hv
    obtain ⟨ln, hwt, rfl⟩ : ∃ z, ls[j]? = some z ∧ encLine z = d := by
      rw [List.getElem?_map] at hd
      cases hh : ls[j]? with
      | none => rw [hh] at hd; cases hd
      | some z => rw [hh] at hd; exact ⟨z, rfl, Option.some.inj hd⟩
    have hlt := (List.getElem?_eq_some_iff.mp hwt).1
    have hwA : l ≠ wA := fun z => by obtain ⟨es, w1, _⟩ := T6.at_.walked; rw [z, w1] at h6; cases h6
    refine hturn ln (List.mem_of_getElem? hwt) v H6 (fun σ2 b H3 => if b = true then eB X scope elt σ2 H3 fun y H4 => ∃ acc, H4 l = some (.lst acc) ∧ acc.length < sizeLine ∧ _ else _) T6 (dv.mono T6.same) fun σ2 H7 T7 hσ hσi => ?_
    have h7 := hide_same _ _ _ _ (T7.same _ _ (by rw [hide_at hwA]; exact h6))
    have h7' : hide H7 wA l = some (.lst wr) := by rw [hide_at hwA]; exact h7
    have d7 := d6.mono T7.same
    have ef : ((ls.take (j + 1)).filter g).map encLine = ((ls.take j).filter g).map encLine ++ (if g ln = true then [encLine ln] else []) := by
      rw [take_len hwt, List.filter_append, List.map_append]
      congr 1
      cases hg : g ln with
      | true => simp [hg]
      | false => simp [hg]
    cases hg : g ln with
    | false =>
      refine iteF ⟨T6.trans x1 T7, n6.step h6 T7, wr, h7, ?_⟩
      rw [ef, hg]
      rw [if_neg (by decide), List.append_nil]
      exact d7
    | true =>
      refine iteT (helt σ2 v H7 _ hσi ⟨wr, h7, ?_, (T6.trans x1 T7).put (n6.step h6 T7) hl h7, (n6.step h6 T7).put (Ne.symm hwA), _, upd_same, ?_⟩)
      · rw [d6.length, List.length_map]
        exact Nat.lt_of_le_of_lt (Nat.le_trans (List.length_filter_le ..) (Nat.le_trans (List.length_take_le ..) (Nat.le_of_lt hlt))) (Nat.lt_of_le_of_lt hln (by decide))
      · rw [ef, hg, if_pos rfl]
        have eh : hide (upd H7 l (.lst (wr ++ [v]))) wA = upd (hide H7 wA) l (.lst (wr ++ [v])) := by
          funext a
          by_cases ha : a = wA
          · rw [ha, hide_self, upd_ne (Ne.symm hwA), hide_self]
          · rw [hide_at ha]
            by_cases hb : a = l
            · rw [hb, upd_same, upd_same]
            · rw [upd_ne hb, upd_ne hb, hide_at ha]
        rw [eh]
        have kT := upd_keepT (K := X.K) (o := .lst (wr ++ [v])) h7'
        exact (DatAll.keepT kT d7 (imms_map fun _ _ => imms_strs)).append (.one (Dat.keepT kT ((dv.mono T6.same).mono T7.same) imms_strs))
  · rintro H6 ⟨T6, _, wr, h6, d6⟩
    have hxl : xs.length = ls.length := by rw [dxs0.length, List.length_map]
    rw [hxl, List.take_length] at d6
    exact hQ l wr H6 T6 h6 d6
end
end K74

set_option Elab.async false
set_option linter.all false
set_option maxRecDepth 100000
set_option maxHeartbeats 4000000
/-! K74.KT9: least_preload. -/
namespace K74
open PySem PySem.Spec PyProof.Rows L2
def goodM (G : ProgD) (ws : List WantD) (m : Nat) : List (List S) := (rowsM (others G) m).filter fun l => givesAll G (aloneG G) l ws
def leastM (G : ProgD) (ws : List WantD) : Option (List S) := if possibleM G ws = true then (List.range ((others G).length + 1)).findSome? (fun m => (goodM G ws m).head?) else none
theorem findR {α : Type} {f : Nat → Option α} {i : Nat} {v : α} (h0 : (List.range i).findSome? f = none) (h1 : f i = some v) : ∀ {n : Nat}, i < n → (List.range n).findSome? f = some v
  | 0, h => absurd h (Nat.not_lt_zero _)
  | n + 1, h => by
    rw [List.range_succ, List.findSome?_append]
    by_cases e : i = n
    · subst e
      rw [h0]
      simp [h1]
    · rw [findR h0 h1 (by omega : i < n)]
      rfl
def encOptLine : Option (List S) → D
  | some l => encLine l
  | none => .non
section
variable {P : Program} {w : World} {K : PySem.W.Frag} {mg : Str → Option Value} {base : Heap} {f : Addr} {fd : FuncData} {k : Nat} {CT : Addr}
abbrev s_least_preload : Stmt := top 57
theorem sc_least_preload : FnScope ["program", "wanted", "many", "trial", "names", "some", "line"] ["program", "wanted"] (defScope s_least_preload) := ⟨rfl, rfl, rfl, by decide +kernel, rfl, by decide +kernel, by decide +kernel⟩
def RLeast : Hp → List D → D → Prop := fun _ ds d => ∃ (G : ProgD) (ws : List WantD), ds = [encProg G, .tup (ws.map encWant)] ∧ d = encOptLine (leastM G ws) ∧ PT0 G ∧ (others G).length ≤ 4 ∧ (∀ w ∈ ws, WOk G w) ∧ ws.length ≤ 64
theorem ok_least_preload {kl kt kg kp : Nat} (F : Fun K "least_preload" "least_preload" s_least_preload f fd) (T : Gb mg) (hk : kl ≤ k ∧ kt + 1 ≤ k ∧ kg ≤ k ∧ 1 ≤ k ∧ kp ≤ k) (c_looked : Cal P w K mg base kl "looked" (spP K RLooked)) (c_Trial : Mak P w K mg base kt "Trial" CT (spG (QTrialInit K CT))) (c_others_of : Cal P w K mg base 1 "others_of" (spN K ROthers)) (c_rows_of_names : Cal P w K mg base 1 "rows_of_names" (spN K RRowsOf)) (m_gives_all : Met P w K mg base kg CT "gives_all" (spG (QGivesAll K CT))) (m_is_possible : Met P w K mg base kp CT "is_possible" (spG (QPossible K CT))) : FnOk P w K mg base CX0 (k + 1) f fd ["program", "wanted"] (spP K RLeast) := by
  refine fn_WP F sc_least_preload (fun H ds d h => ?_) (fun cdv A outer s H E vs ds d Q oo h hvs hQ => ?_)
  · obtain ⟨G, ws, rfl, _⟩ := h
    rfl
  · obtain ⟨G, ws, rfl, rfl, pt, hol, wok, hwl⟩ := h
    obtain ⟨v0, v1, rfl, d0, d1⟩ : ∃ v0 v1, vs = [v0, v1] ∧ Dat K H v0 (encProg G) ∧ Dat K H v1 (.tup (ws.map encWant)) := by
      cases hvs with | cons h1 r => cases r with | cons h2 r => cases r; exact ⟨_, _, rfl, h1, h2⟩
    refine ws_asg (we_ee (ee_call c_looked oo hk.1 (ea_cons (ee_var 0 rfl) (ea_cons (ee_var 1 rfl) ea_nil)) (fun _ _ => ⟨G, ws, rfl, rfl, pt.sz, hwl, wok⟩)) (ρ := [some (encProg G), some (.tup (ws.map encWant)), none, none, none, none, none]) (.cons d0 (.cons d1 (.skip (.skip (.skip (.skip (.skip .nil))))))) fun v H1 s1 dv => ?_)
    obtain ⟨q, u0, u1, rfl, hq, e0, e1⟩ : ∃ q u0 u1, v = .ref q ∧ SqT K H1 q [u0, u1] ∧ Dat K H1 u0 (encProg G) ∧ Dat K H1 u1 (.tup (ws.map encWant)) := by
      cases dv with
      | tup h1 h2 =>
        cases h2 with
        | cons a1 h2 =>
          cases h2 with
          | cons a2 h2 =>
            cases h2
            exact ⟨_, _, _, rfl, h1, a1, a2⟩
    refine wg_two 0 1 oo hq ?_
    refine ws_asg (we_of (pe_tup pa_w) (wa_cons (we_trial c_Trial oo hk.2.1 (we_var 0 rfl ⟨G, e0, fun t wA H2 s2 hwA x => wa_cons (we_en (en_call c_others_of oo hk.2.2.2.1 (ea_cons (ee_var 0 rfl) ea_nil) (fun _ _ => ⟨G, rfl, rfl, pt.sz⟩)) (ρ := [some (encProg G), none, none, none, none, none, none]) (.cons (e0.mono s2) (.skip (.skip (.skip (.skip (.skip (.skip .nil))))))) fun lo wo H3 hlo s3 h3 d3 => wa_nil ⟨by show 2 ≤ sizeLine; decide, fun qp hqp => ?_⟩)⟩))))
    have s34 : Same H3 (upd H3 qp (.tup [.ref t, .ref lo])) := Same.new hqp
    have hqp4 : upd H3 qp (.tup [.ref t, .ref lo]) qp = some (.tup [.ref t, .ref lo]) := upd_same
    generalize hH4 : upd H3 qp (.tup [.ref t, .ref lo]) = H4 at s34 hqp4 ⊢
    refine wg_two 3 4 oo (SqT.of hqp4) ?_
    have x4 := x.mono (s3.trans s34)
    have e14 := ((e1.mono s2).mono s3).mono s34
    obtain ⟨dx4, vp4, hin4, _⟩ := x4.ins
    have s14 : Same H1 H4 := (s2.trans s3).trans s34
    refine ws_if (wt_of (pt_not (pt_val pe_w (fun _ => rfl))) (we_met m_is_possible oo hk.2.2.2.2 (we_var 3 rfl ⟨t, rfl, ⟨_, _, hin4, rfl⟩, wa_cons (we_var 1 rfl (wa_nil ⟨t, wA, G, u1, ws, rfl, x4, pt, x4.beside e14, hol, wok, hwl, fun H5 T5 => ⟨_, rfl, ?_⟩⟩))⟩)))
    have s15 : Same H1 H5 := sameOf s14 hwA T5
    by_cases hp : possibleM G ws = true
    · rw [hp]
      refine iteF (ws_nil ?_)
      let Pv : Nat → L2.St → Hp → Prop := fun i σ H' => ∃ x2 x5 x6 : Option V, σ = [some u0, some u1, x2, some (.ref t), some (.ref lo), x5, x6] ∧ TStep K CT H4 t wA G H' ∧ (List.range i).findSome? (fun m => (goodM G ws m).head?) = none
      have d5 : Dat K H5 (.ref lo) (.lst ((others G).map D.str)) := ((x4.beside ((Dat.lst h3 d3).mono s34)).mono T5.same).mono (hide_same _ _)
      refine ws_forR oo PassesOwn.never T.range (we_ee (ee_op od_addI (ee_len T.len (ee_var 4 rfl) len_mapL) ee_int) (ρ := [none, none, none, none, some (.lst ((others G).map D.str)), none, none]) (.skip (.skip (.skip (.skip (.cons d5 (.skip (.skip .nil))))))) fun v6 H6 s6 dv6 => ?_)
      cases dv6
      refine ⟨(others G).length + 1, Pv, rfl, by omega, ⟨none, none, none, rfl, T5.trans x4 (TStep.grow T5.at_ s6), rfl⟩, ?_, ?_⟩
      · rintro i σ H7 hi ⟨x2, x5, x6, rfl, T7, hn⟩
        refine wg_name 2 oo ?_
        have x7 := T7.at_
        have d7 : Dat K H7 (.ref lo) (.lst ((others G).map D.str)) := ((x4.beside ((Dat.lst h3 d3).mono s34)).mono T7.same).mono (hide_same _ _)
        have d71 := (x4.beside e14).mono T7.same
        refine ws_lines 5 (x := "line") (i := 6) (t := t) (wA := wA) (G := G) (ls := rowsM (others G) i) (g := fun l => givesAll G (aloneG G) l ws) oo (blkOk_by rfl) (we_en (en_call c_rows_of_names oo hk.2.2.2.1 (ea_cons (ee_var 4 rfl) (ea_cons (ee_var 2 rfl) ea_nil)) (fun _ _ => ⟨others G, i, rfl, rfl, hol, by omega⟩)) (ρ := [none, none, some (.int (i : Nat)), none, some (.lst ((others G).map D.str)), none, none]) (.skip (.skip (.cons (.int _) (.skip (.cons d7 (.skip (.skip .nil))))))) fun lr xs H8 hlr s8 h8 d8 => ⟨lr, xs, rfl, x7.mono s8, h8, d8, Nat.le_trans (rowsM_c4 hol (by omega)) (by decide), ?_, ?_, ?_⟩)
        · intro l hl v H6 Nx T6 dv6 hN
          intro bs bH bC bcl bfp
          refine wg_name 6 oo.blk ⟨rfl, ?_⟩
          intro bs bH bC bcl bfp
          obtain ⟨dx6, vp6, hin6, _⟩ := T6.at_.ins
          refine wts_one (wt_of (pt_val pe_w (fun _ => rfl)) (we_met m_gives_all oo.blk hk.2.2.1 (we_var 3 rfl ⟨t, rfl, ⟨_, _, hin6, rfl⟩, wa_cons (we_var 6 rfl (wa_cons (we_var 1 rfl (wa_nil ⟨t, wA, G, v, l, u1, ws, rfl, T6.at_, pt, dv6, (d71.mono (hide_mono s8)).mono T6.same, fun y hy => others_sub (rowsM_sub l hl y hy), by rw [rowsM_len l hl]; omega, wok, hwl, fun H7 T7 => ⟨_, rfl, hN _ H7 T7 (by rfl) (by rfl)⟩⟩))))⟩)))
        · intro σ2 v H7 Q' hσ hq'
          intro bs bH bC bcl bfp
          exact we_var 6 hσ hq'
        · intro lr wr H' T' hlr hd'
          have T9 : TStep K CT H4 t wA G H' := (T7.trans x4 (TStep.grow x7 s8)).trans x4 T'
          have hd0 : DatAll K H' wr ((goodM G ws i).map encLine) := hd'.mono (hide_same _ _)
          refine ws_ifE (z := decide ((0 : Int) < ((goodM G ws i).length : Int))) (et_cmp od_gt (ee_len T.len (ee_var 5 rfl) len_mapL) ee_int) (ρ := [none, none, none, none, none, some (.lst ((goodM G ws i).map encLine)), none]) (.skip (.skip (.skip (.skip (.skip (.cons (.lst hlr hd0) (.skip .nil))))))) (fun hz H9 s9 => ?_) (fun hz H9 s9 => ws_nil (ws_nil ?_))
          · cases hg : goodM G ws i with
            | nil => rw [hg] at hz; simp at hz
            | cons g0 gr =>
              have hd9 : Dat K H9 (.ref lr) (.lst (encLine g0 :: gr.map encLine)) := by
                have := (Dat.lst hlr hd0).mono s9
                rw [hg] at this
                exact this
              refine ws_ret (we_ee (ee_ix (i := ((0 : Nat) : Int)) (d := encLine g0) (ee_var 5 rfl) ee_int (atI_nat (xs := encLine g0 :: gr.map encLine) (i := 0) rfl)) (ρ := [none, none, none, none, none, some (.lst (encLine g0 :: gr.map encLine)), none]) (.skip (.skip (.skip (.skip (.skip (.cons hd9 (.skip .nil))))))) fun v H10 s10 dv => hQ v H10 ((s1.trans (sameOf s14 hwA (T9.trans x4 (TStep.grow T9.at_ s9)))).trans s10) ?_)
              unfold leastM
              rw [if_pos hp, findR hn (by rw [hg]; rfl) hi]
              exact dv
          · refine ⟨_, _, _, rfl, T9.trans x4 (TStep.grow T9.at_ s9), ?_⟩
            have hg : goodM G ws i = [] := by
              cases hg : goodM G ws i with
              | nil => rfl
              | cons a r => rw [hg] at hz; simp at hz
            rw [List.range_succ, List.findSome?_append, hn]
            simp [hg]
      · rintro σ H7 ⟨x2, x5, x6, rfl, T7, hn⟩
        refine ws_ret (we_ee ee_non (ρ := [none, none, none, none, none, none, none]) (.skip (.skip (.skip (.skip (.skip (.skip (.skip .nil))))))) fun v H' s' dv => hQ v H' ((s1.trans (sameOf s14 hwA T7)).trans s') ?_)
        unfold leastM
        rw [if_pos hp, hn]
        exact dv
    · have hp' : possibleM G ws = false := by simpa using hp
      rw [hp']
      refine iteT (ws_ret (we_ee ee_non (ρ := [none, none, none, none, none, none, none]) (.skip (.skip (.skip (.skip (.skip (.skip (.skip .nil))))))) fun v H' s' dv => hQ v H' ((s1.trans s15).trans s') ?_))
      unfold leastM
      rw [if_neg hp]
      exact dv
end
end K74

set_option Elab.async false
set_option linter.all false
set_option maxRecDepth 100000
set_option maxHeartbeats 4000000
/-! K74.KT10: shows_preload. -/
namespace K74
open PySem PySem.Spec PyProof.Rows L2
section
variable {P : Program} {w : World} {K : PySem.W.Frag} {mg : Str → Option Value} {base : Heap} {f : Addr} {fd : FuncData} {k : Nat} {CT : Addr}
abbrev s_shows_preload : Stmt := top 54
theorem sc_shows_preload : FnScope ["program", "wanted", "thing"] ["program", "wanted", "thing"] (defScope s_shows_preload) := ⟨rfl, rfl, rfl, by decide +kernel, rfl, by decide +kernel, by decide +kernel⟩
def RShows : Hp → List D → D → Prop := fun _ ds d => ∃ (G : ProgD) (ws : List WantD) (zs : List S), ds = [encProg G, .tup (ws.map encWant), .tup (zs.map D.str)] ∧ d = .bl (givesAll G (aloneG G) zs ws) ∧ PT0 G ∧ (∀ w ∈ ws, WOk G w) ∧ ws.length ≤ 64 ∧ (∀ z ∈ zs, isNameM z = true ∧ z ∈ others G) ∧ zs.Nodup ∧ zs.length ≤ 8
theorem ok_shows_preload {kl kt kg : Nat} (F : Fun K "shows_preload" "shows_preload" s_shows_preload f fd) (T : Gb mg) (hk : kl ≤ k ∧ kt + 1 ≤ k ∧ kg ≤ k ∧ 3 ≤ k) (c_looked : Cal P w K mg base kl "looked" (spP K RLooked)) (c_is_preload : Cal P w K mg base 3 "is_preload" (spP K RIsPreload)) (c_Trial : Mak P w K mg base kt "Trial" CT (spG (QTrialInit K CT))) (m_gives_all : Met P w K mg base kg CT "gives_all" (spG (QGivesAll K CT))) : FnOk P w K mg base CX0 (k + 1) f fd ["program", "wanted", "thing"] (spP K RShows) := by
  refine fn_WP F sc_shows_preload (fun H ds d h => ?_) (fun cdv A outer s H E vs ds d Q oo h hvs hQ => ?_)
  · obtain ⟨G, ws, zs, rfl, _⟩ := h
    rfl
  · obtain ⟨G, ws, zs, rfl, rfl, pt, wok, hwl, hzs, hnd, hzl⟩ := h
    obtain ⟨v0, v1, v2, rfl, d0, d1, d2⟩ : ∃ v0 v1 v2, vs = [v0, v1, v2] ∧ Dat K H v0 (encProg G) ∧ Dat K H v1 (.tup (ws.map encWant)) ∧ Dat K H v2 (.tup (zs.map D.str)) := by
      cases hvs with | cons h1 r => cases r with | cons h2 r => cases r with | cons h3 r => cases r; exact ⟨_, _, _, rfl, h1, h2, h3⟩
    refine ws_asg (we_ee (ee_call c_looked oo hk.1 (ea_cons (ee_var 0 rfl) (ea_cons (ee_var 1 rfl) ea_nil)) (fun _ _ => ⟨G, ws, rfl, rfl, pt.sz, hwl, wok⟩)) (ρ := [some (encProg G), some (.tup (ws.map encWant)), none]) (.cons d0 (.cons d1 (.skip .nil))) fun v H1 s1 dv => ?_)
    obtain ⟨q, u0, u1, rfl, hq, e0, e1⟩ : ∃ q u0 u1, v = .ref q ∧ SqT K H1 q [u0, u1] ∧ Dat K H1 u0 (encProg G) ∧ Dat K H1 u1 (.tup (ws.map encWant)) := by
      cases dv with
      | tup h1 h2 =>
        cases h2 with
        | cons a1 h2 =>
          cases h2 with
          | cons a2 h2 =>
            cases h2
            exact ⟨_, _, _, rfl, h1, a1, a2⟩
    refine wg_two 0 1 oo hq ?_
    refine ws_ret (we_of (pe_and pe_w (pe_one pe_w)) (we_ee (ee_call c_is_preload oo hk.2.2.2 (ea_cons (ee_var 0 rfl) (ea_cons (ee_var 2 rfl) ea_nil)) (fun _ _ => ⟨G, zs, rfl, rfl, hzs, hnd, by omega, pt.sz⟩)) (ρ := [some (encProg G), none, some (.tup (zs.map D.str))]) (.cons e0 (.skip (.cons (d2.mono s1) .nil))) fun vb H2 s2 dvb => ?_))
    cases dvb
    refine ⟨true, rfl, iteT (we_met m_gives_all oo hk.2.2.1 (we_trial c_Trial oo hk.2.1 (we_var 0 rfl ⟨G, e0.mono s2, fun t wA H3 s3 hwA x => ?_⟩)))⟩
    obtain ⟨dx, vp, hin, _⟩ := x.ins
    exact ⟨t, rfl, ⟨_, _, hin, rfl⟩, wa_cons (we_var 2 rfl (wa_cons (we_var 1 rfl (wa_nil ⟨t, wA, G, v2, zs, u1, ws, rfl, x, pt, x.beside ((d2.mono s1).mono (s2.trans s3)), x.beside (e1.mono (s2.trans s3)), fun y hy => others_sub (hzs y hy).2, hzl, wok, hwl, fun H7 T7 => hQ _ H7 (s1.trans (sameOf (s2.trans s3) (s2.free hwA) T7)) (.bl _)⟩))))⟩
end
end K74

set_option Elab.async false
set_option linter.all false
set_option maxRecDepth 100000
set_option maxHeartbeats 4000000
/-! K74.KH1: the source of draws: a list that is written; sorted of pairs of texts; take, of, picked. -/
namespace K74
open PySem PySem.Spec PyProof.Rows L2

/-! ### sorted of pairs of texts -/
def pyPair (p : S × S) : PyData := .tuple [.str p.1, .str p.2]
def rSortPS (K : PySem.W.Frag) : List V → Hp → VK → Prop := fun vs H Q => ∃ (a : Addr) (xs : List V) (ps : List (S × S)), vs = [.ref a] ∧ H a = some (.lst xs) ∧ DatAll K H xs (ps.map encPair) ∧ ∀ (ys : List V) (p : Addr), ys.Perm xs → H p = none → Q (.ref p) (upd H p (.lst ys))
section
variable {X : Cx} {pins : List (Addr × Obj)} {σ : L2.St} {H : Hp} {s : Shared}
theorem each_pairs (I : Inv X pins σ H s) {h' : Heap} (keep : ∀ b o, s.heap.get? b = some o → h'.get? b = some o) {xs : List V} {its : List Value} {ps : List (S × S)} (rv : Vals xs its) (h : DatAll X.K H xs (ps.map encPair)) : PySem.W.EachIs (fun v d => ∃ as, Reads h' v d as) its (ps.map pyPair) := by
  induction ps generalizing xs its with
  | nil =>
    cases h
    cases rv
    exact .nil
  | cons p ps ih =>
    cases h with
    | cons h1 h2 =>
      cases rv with
      | cons r t =>
        refine .cons ?_ (ih t h2)
        cases h1 with
        | tup hq hd =>
          cases r
          obtain ⟨its', rv', ⟨o, ho, hc, n, hdt⟩, _⟩ := I.tuple hq
          cases hd with
          | cons d1 hd =>
            cases hd with
            | cons d2 hd =>
              cases hd
              cases d1
              cases d2
              cases rv' with
              | cons r1 rv' =>
                cases rv' with
                | cons r2 rv' =>
                  cases rv'
                  obtain ⟨t1, rfl⟩ := r1
                  obtain ⟨t2, rfl⟩ := r2
                  exact ⟨_, .tuple (keep _ _ ho) hc hdt (.cons (.str _ _) (.cons (.str _ _) .nil))⟩
theorem cr_sortedPS (hu : X.A.units + 64 < cLine) : CallR X (.builtin "sorted") (rSortPS X.K) := by
  intro pins s σ H vs us Q I r h
  obtain ⟨a, xs, ps, rfl, ha, hd, q⟩ := h
  obtain ⟨its, rv, hl, hz⟩ := I.list (SqL.of ha)
  rw [Vals.ref1 r]
  have hrefs : ∀ x ∈ xs, ∃ t, x = V.ref t := fun x hx => by
    obtain ⟨i, hi⟩ := List.mem_iff_getElem?.mp hx
    obtain ⟨d, hdi, dv⟩ := hd.getV hi
    rw [List.getElem?_map] at hdi
    cases hp : ps[i]? with
    | none => rw [hp] at hdi; cases hdi
    | some p =>
      rw [hp] at hdi
      have e : encPair p = d := Option.some.inj hdi
      subst e
      cases dv
      exact ⟨_, rfl⟩
  obtain ⟨e1, e2⟩ := bkV_refs rv hrefs
  have hlen : its.length ≤ sizeLine := by rw [← rv.length]; exact hz
  have hperm : (PySem.W.sortVals (PySem.W.dataKind (PySem.W.sortingHeap (PySem.W.copyHeap s.heap its) (s.heap.objs.size + 1) its) (ps.map pyPair)) false its its).Perm its := by
    have h1 : (PySem.W.sortVals (PySem.W.dataKind (PySem.W.sortingHeap (PySem.W.copyHeap s.heap its) (s.heap.objs.size + 1) its) (ps.map pyPair)) false its its).Perm ((its.zip its).map Prod.snd) := (List.mergeSort_perm _ _).map Prod.snd
    rw [List.map_snd_zip (Nat.le_refl _)] at h1
    exact h1
  refine PySem.W.sorted_vals hl.isList (PySem.W.SortsAt.data (ds := ps.map pyPair) (each_pairs I (fun b o e => PySem.W.sorting_copy_old e) rv hd) ?_ ?_ ?_) hlen ?_
  · intro d hd d' hd'
    obtain ⟨p, _, rfl⟩ := List.mem_map.mp hd
    obtain ⟨p', _, rfl⟩ := List.mem_map.mp hd'
    rfl
  · refine .inl fun d hd => ?_
    obtain ⟨p, _, rfl⟩ := List.mem_map.mp hd
    exact ⟨_, _, rfl⟩
  · intro d hd
    obtain ⟨p, _, rfl⟩ := List.mem_map.mp hd
    have h1 : X.A.in1.in1.units ≤ X.A.units + 2 := Nat.le_refl _
    have h2 : (pyPair p).depth ≤ 4 := by
      show PyData.depth (.tuple [.str p.1, .str p.2]) ≤ 4
      simp [PyData.depth, PyData.depthAll]
    omega
  · generalize PySem.W.sortVals (PySem.W.dataKind (PySem.W.sortingHeap (PySem.W.copyHeap s.heap its) (s.heap.objs.size + 1) its) (ps.map pyPair)) false its its = outs at hperm ⊢
    obtain ⟨ep, he'⟩ := PyProof.Rows.sortedAll_at s.heap its outs.toArray
    have h3 : ∀ u ∈ outs, ∃ a, u = Value.ref a := fun u hu => e2 u (hperm.mem_iff.mp hu)
    have hp : (outs.map bkV).Perm xs := by
      rw [e1]
      exact hperm.map bkV
    have hl2 : (outs.map bkV).length ≤ sizeLine := by
      rw [hp.length_eq]
      exact hz
    exact ⟨.ref _, upd H (s.heap.objs.size + 1) (.lst (outs.map bkV)), I.laid (t' := s.toks) (fun _ _ => PyProof.Rows.sortedAll_old) (Nat.le_succ _) ⟨hl2, outs, ep, bkV_vals h3, he'⟩, rfl, q _ _ hp (I.hok.fresh (Nat.le_succ _))⟩
end

/-! ### a list against the empty one -/
section
variable {X : Cx}
def rNil (neg : Bool) : R2 := fun x y H Q => ∃ (a b : Addr) (xs : List V), x = .ref a ∧ y = .ref b ∧ H a = some (.lst xs) ∧ H b = some (.lst []) ∧ Q (.bl (neg != xs.isEmpty)) H
theorem rc_nil {pins : List (Addr × Obj)} {σ : L2.St} {H : Hp} {s : Shared} (I : Inv X pins σ H s) {k : Nat} (o : Ok X k) {a b : Addr} {xs : List V} (ha : H a = some (.lst xs)) (hb : H b = some (.lst [])) : SeqAt.RcAt X.A s (.ref a) (.ref b) xs.isEmpty ∧ SeqAt.RcNeAt X.A s (.ref a) (.ref b) (!xs.isEmpty) := by
  have hu := o.units
  obtain ⟨is, r1, p1, z1⟩ := I.list (SqL.of ha)
  obtain ⟨js, r2, p2, z2⟩ := I.list (SqL.of hb)
  have l1 := r1.length
  cases r2
  cases xs with
  | nil =>
    cases r1
    have g := SeqAt.RcAt.lists (A := X.A) (e := fun _ => true) p1.isList p2.isList (by simp) (by omega) (fun j h1 h2 => by simp at h1)
    have g' := SeqAt.RcNeAt.lists (A := X.A) (e := fun _ => true) p1.isList p2.isList (by simp) (by omega) (fun j h1 h2 => by simp at h1)
    exact ⟨g, g'⟩
  | cons x r =>
    rw [List.length_cons] at l1
    exact ⟨SeqAt.RcAt.lists_lengths p1.isList p2.isList (by rw [bne_iff_ne]; simp only [List.size_toArray, List.length_nil]; omega) (by omega), SeqAt.RcNeAt.lists_lengths p1.isList p2.isList (by rw [bne_iff_ne]; simp only [List.size_toArray, List.length_nil]; omega) (by omega)⟩
theorem op_eqNil {k : Nat} (o : Ok X k) : OpR X (compareOp .Eq) (rNil false) := by
  intro pins s σ H x y v u Q I rx ry h
  obtain ⟨a, b, xs, rfl, rfl, ha, hb, q⟩ := h
  cases rx
  cases ry
  have e : (false != xs.isEmpty) = xs.isEmpty := by simp
  rw [e] at q
  exact (rc_nil I o ha hb).1 X.prog X.w X.xe _ ⟨.bl _, H, I, rfl, q⟩
theorem op_neNil {k : Nat} (o : Ok X k) : OpR X (compareOp .NotEq) (rNil true) := by
  intro pins s σ H x y v u Q I rx ry h
  obtain ⟨a, b, xs, rfl, rfl, ha, hb, q⟩ := h
  cases rx
  cases ry
  have e : (true != xs.isEmpty) = !xs.isEmpty := by simp
  rw [e] at q
  exact (rc_nil I o ha hb).2 X.prog X.w X.xe _ ⟨.bl _, H, I, rfl, q⟩
end

/-! ### rules -/
section
variable {X : Cx} {σ : L2.St} {H : Hp} {pos p p' apos cpos : Pos} {k : Nat} {a e ob ix : Expr} {Q : VK} {v : V}
theorem wg_ix {Q : L2.St → Hp → Prop} (h : WE X ob σ H fun o H2 => WE X ix σ H2 fun i H3 => ∃ p xs k j, o = .ref p ∧ i = .int k ∧ H3 p = some (.lst xs) ∧ ixN xs.length k = some j ∧ Q σ (upd H3 p (.lst (xs.set j v))))
    (ha : ∀ v, assign (.Subscript ob ix pos) X.env v = (do
      let ov ← holding [v] (eval ob X.env)
      let iv ← holding [v, ov] (eval ix X.env)
      standAt pos
      holding [v, ov, iv] (setItem ov iv v)
      release [v, ov, iv] []) := by intro _; rfl) : WG X (.Subscript ob ix pos) v σ H Q := wg_of (pg_sub pe_w pe_w set_list ha) h
theorem we_ix (h : WE X ob σ H fun o H2 => WE X ix σ H2 fun i H3 => rIx X.K o i H3 Q) (hs : PlainIx ix := by exact fun _ _ => rfl) : WE X (.Subscript ob ix pos) σ H Q := we_of (pe_ix ix_seq pe_w pe_w hs) h
theorem we_listL (hm : X.mg "list" = none) (h : WE X a σ H fun v H1 => ∃ (l : Addr) (xs : List V), v = .ref l ∧ H1 l = some (.lst xs) ∧ ∀ p, H1 p = none → Q (.ref p) (upd H1 p (.lst xs))) (hg : Gl X "list" := by rfl) (hs : starEach [a] X.env = (false, eval a X.env) :: starEach [] X.env := by rfl) : WE X (.Call (.Name "list" p) [a] [] pos) σ H Q :=
  we_of (pe_callTy call_list_of hg hm (by decide +kernel) pa_w (he := hs)) (wa_cons (h.mono fun v H1 ⟨l, xs, e, h1, q⟩ => wa_nil ⟨l, xs, by rw [e], Or.inl (SqL.of h1), q⟩) hs)
theorem we_tupleL (hm : X.mg "tuple" = none) (h : WE X a σ H fun v H1 => ∃ (l : Addr) (xs : List V), v = .ref l ∧ H1 l = some (.lst xs) ∧ ∀ p, H1 p = none → Q (.ref p) (upd H1 p (.tup xs))) (hg : Gl X "tuple" := by rfl) (hs : starEach [a] X.env = (false, eval a X.env) :: starEach [] X.env := by rfl) : WE X (.Call (.Name "tuple" p) [a] [] pos) σ H Q :=
  we_of (pe_callTy call_tuple_of hg hm (by decide +kernel) pa_w (he := hs)) (wa_cons (h.mono fun v H1 ⟨l, xs, e, h1, q⟩ => wa_nil ⟨l, xs, by rw [e], Or.inl ⟨SqL.of h1, q⟩⟩) hs)
theorem we_sortedPS (oo : Ok X k) (hm : X.mg "sorted" = none) (h : WE X a σ H fun v H1 => rSortPS X.K [v] H1 Q) (hg : Gl X "sorted" := by rfl) (hs : starEach [a] X.env = (false, eval a X.env) :: starEach [] X.env := by rfl) : WE X (.Call (.Name "sorted" p) [a] [] pos) σ H Q :=
  we_of (pe_callB (cr_sortedPS oo.units) hg hm (by decide +kernel) pa_w (he := hs)) (wa_cons (h.mono fun v H1 q => wa_nil q) hs)
theorem seqIx_nat {r n : Nat} (h : r < n) : seqIndex? (r : Int) n = some r := by
  unfold seqIndex?
  have h0 : ¬ ((r : Int) < 0) := by omega
  simp only [h0, if_false]
  have h1 : (0 : Int) ≤ (r : Int) := by omega
  have h2 : (r : Int) < (n : Int) := by omega
  simp [h1, h2]
/-- xs.pop(e) -/
theorem we_pop (h : WE X ob σ H fun v H1 => ∃ l, v = .ref l ∧ (∃ xs, H1 l = some (.lst xs)) ∧ WE X e σ H1 fun y H2 => ∃ (xs : List V) (r : Nat) (x : V), y = .int (r : Int) ∧ H2 l = some (.lst xs) ∧ r < 1000000 ∧ xs[r]? = some x ∧ Q x (upd H2 l (.lst (xs.eraseIdx r))))
    (hbase : attributeBase ob "pop" X.env (eval ob X.env) = eval ob X.env := by rfl)
    (hfew : ((backTo cpos (starEach (e :: []) X.env)).all (fun x => !x.1) && (backToKw cpos (keywordEach [] X.env)).all (fun x => x.1.isSome)
      && decide ((e :: ([] : List Expr)).length + ([] : List Keyword).length + (if ([] : List Keyword).isEmpty then 0 else 1) < 30)) = true := by rfl)
    (hline : (apos.endLine == cpos.line) = true := by rfl) (hst : starEach (e :: []) X.env = (false, eval e X.env) :: starEach [] X.env := by rfl) (hplain : (backTo cpos (starEach [] X.env)).any (·.1) = false := by rfl) :
    WE X (.Call (.Attribute ob "pop" apos) [e] [] cpos) σ H Q :=
  we_of (pe_bm PySem.F.plainAttrs_list PySem.F.slot_list_pop PySem.F.type_list_pop mt_popAt pe_w (pa_cons pe_w pa_nil hst) hbase hfew hline hst hplain)
    (h.mono fun v H1 ⟨l, ev, ⟨ys, hy⟩, hh⟩ => ⟨by
      subst ev
      exact .inl ⟨rfl, ys, SqL.of hy⟩, hh.mono fun y H2 ⟨xs, r, x, e2, h1, h2, h3, h4⟩ => ⟨l, xs, (r : Int), r, x, ev, by rw [e2], h1, by omega, by omega, seqIx_nat (List.getElem?_eq_some_iff.mp h3).1, h3, h4⟩⟩)
theorem ws_par {x y : S} {b : Expr} {rest : List Stmt} {Dn : Ends} (i l : Nat) {px py pt : Pos} {kt k2 : Nat} {pt2 : Pos} (oo : Ok X k) (h : WA X [a, b] σ H fun vs H1 => ∃ v w, vs = [v, w] ∧ WS X rest Dn ((σ.set i (some v)).set l (some w)) H1) (hi : X.N[i]? = some x := by rfl) (hj : X.N[l]? = some y := by rfl) (hij : i ≠ l := by decide)
    (hx : X.env.scope.names.lookup x = some .local := by rfl) (hy : X.env.scope.names.lookup y = some .local := by rfl)
    (hw : swappedStores [.Tuple [.Name x px, .Name y py] kt pt] (.Tuple [a, b] k2 pt2) X.env = pure (some [x, y]) := by rfl)
    (hs : swapsWithSole [.Tuple [.Name x px, .Name y py] kt pt] (.Tuple [a, b] k2 pt2) pos.line X.env = pure false := by rfl) :
    WS X (.Assign [.Tuple [.Name x px, .Name y py] kt pt] (.Tuple [a, b] k2 pt2) pos :: rest) Dn σ H := ws_cons (ps_par oo.calm oo.nd hi hj hij hx hy pa_w hw hs) h
/-- xs != [], xs == [] -/
theorem wt_nil {neg : Bool} {op : CmpOp} {Q : Bool → Hp → Prop} (ho : OpR X (compareOp op) (rNil neg)) (h : WE X a σ H fun v H1 => ∃ (l : Addr) (xs : List V), v = .ref l ∧ H1 l = some (.lst xs) ∧ ∀ H2, Same H1 H2 → Q (neg != xs.isEmpty) H2) (hm : behindInMarks op (.List [] p') = false := by first | exact nobehind _ (by decide) (by decide) | rfl) : WT X (.Compare a [op] [.List [] p'] pos) σ H Q :=
  wt_of (pt_cmpR ho pe_w pe_w hm) (h.mono fun v H1 ⟨l, xs, e, h1, q⟩ => we_of (pe_lst pa_nil) ⟨Nat.zero_le _, fun b hb => ⟨l, b, xs, e, rfl, Same.new hb _ _ h1, upd_same, ⟨_, rfl, q _ (Same.new hb)⟩⟩⟩)
end

/-! ### the box -/
def BoxV (m : Nat) (xs : List V) : Prop := ∃ n s c : Int, xs = [.int n, .int s, .int c] ∧ 0 ≤ n ∧ 0 ≤ s ∧ s < 2147483563 ∧ 0 ≤ c ∧ c ≤ (m : Int)
def BAt (H : Hp) (b : Addr) (m : Nat) : Prop := ∃ xs, H b = some (.lst xs) ∧ BoxV m xs
structure BStep (H : Hp) (b : Addr) (m : Nat) (H' : Hp) : Prop where
  at_ : BAt H' b m
  same : Same (hide H b) (hide H' b)
section
variable {K : PySem.W.Frag} {H H1 H2 : Hp} {b l : Addr} {m m' : Nat} {v : V} {d : D}
theorem BoxV.mono {xs : List V} (h : BoxV m xs) (e : m ≤ m') : BoxV m' xs := by
  obtain ⟨n, s, c, e1, h1, h2, h3, h4, h5⟩ := h
  exact ⟨n, s, c, e1, h1, h2, h3, h4, by omega⟩
theorem BAt.mono (h : BAt H b m) (e : m ≤ m') : BAt H b m' := by
  obtain ⟨xs, h1, h2⟩ := h
  exact ⟨xs, h1, h2.mono e⟩
theorem BAt.grow (h : BAt H b m) (s : Same H H1) : BAt H1 b m := by
  obtain ⟨xs, h1, h2⟩ := h
  exact ⟨xs, s _ _ h1, h2⟩
theorem BAt.put {o : HO} (h : BAt H b m) (e : l ≠ b) : BAt (upd H l o) b m := by
  obtain ⟨xs, h1, h2⟩ := h
  exact ⟨xs, by rw [upd_ne (Ne.symm e)]; exact h1, h2⟩
theorem BStep.trans (a : BStep H b m H1) (c : BStep H1 b m' H2) : BStep H b m' H2 := ⟨c.at_, a.same.trans c.same⟩
theorem BStep.grow (h : BAt H b m) (s : Same H H1) : BStep H b m H1 := ⟨h.grow s, hide_mono s⟩
theorem BStep.more (a : BStep H b m H1) (s : Same H1 H2) : BStep H b m H2 := a.trans (.grow a.at_ s)
theorem BStep.before (s : Same H H1) (a : BStep H1 b m H2) : BStep H b m H2 := ⟨a.at_, (hide_mono s).trans a.same⟩
theorem BStep.mono (a : BStep H b m H1) (e : m ≤ m') : BStep H b m' H1 := ⟨a.at_.mono e, a.same⟩
theorem BStep.box {ys : List V} (s : Same H H1) (h : BoxV m ys) : BStep H b m (upd H1 b (.lst ys)) := ⟨⟨ys, upd_same, h⟩, by rw [hide_upd]; exact hide_mono s⟩
/-- a list that was not there is written -/
theorem BStep.put {o : HO} (a : BStep H b m H1) (hl : H l = none) (e : l ≠ b) : BStep H b m (upd H1 l o) := ⟨a.at_.put e, fun x u h => by
  have hx : x ≠ b := fun z => by rw [z, hide_self] at h; cases h
  have hx2 : x ≠ l := fun z => by rw [z, hide_at e, hl] at h; cases h
  have h2 := a.same _ _ h
  rw [hide_at hx] at h2
  rw [hide_at hx, upd_ne hx2]
  exact h2⟩
theorem BStep.at (a : BStep H b m H1) (e : l ≠ b) {o : HO} (h : H l = some o) : H1 l = some o := by
  have := a.same l o (by rw [hide_at e]; exact h)
  rw [hide_at e] at this
  exact this
theorem BStep.free (a : BStep H b m H1) (h : BAt H b m') (hl : H1 l = none) : H l = none := by
  by_cases e : l = b
  · obtain ⟨xs, h1, _⟩ := a.at_
    rw [e, h1] at hl
    cases hl
  · cases q : H l with
    | none => rfl
    | some o =>
      rw [a.at e q] at hl
      cases hl
theorem BAt.keepH (h : BAt H b m) : ∀ a xs, SqT K H a xs → SqT K (hide H b) a xs := by
  obtain ⟨xs, h1, _⟩ := h
  exact hide_T h1
theorem BStep.keepT (h : BAt H b m') (a : BStep H b m H1) : ∀ a xs, SqT K H a xs → SqT K H1 a xs := fun x xs q => Same.seqT ((a.same).trans (hide_same _ _)) (h.keepH x xs q)
/-- what no list stands in, stays -/
theorem BStep.dat (h : BAt H b m') (a : BStep H b m H1) (dv : Dat K H v d) (hi : d.imm = true) : Dat K H1 v d := dv.keepT (a.keepT h) hi
theorem BStep.dats {vs : List V} {ds : List D} (h : BAt H b m') (a : BStep H b m H1) (dv : DatAll K H vs ds) (hi : imms ds = true) : DatAll K H1 vs ds := dv.keepT (a.keepT h) hi
theorem BAt.ne (h : BAt H b m) (hl : H l = none) : l ≠ b := fun e => by
  obtain ⟨xs, h1, _⟩ := h
  rw [e, h1] at hl
  cases hl
/-- a list of others than ints is not the box -/
theorem BAt.other {ws : List V} (h : BAt H b m) (hl : H l = some (.lst ws)) (hw : ∀ x ∈ ws, ∀ i, x ≠ V.int i) : l ≠ b := fun e => by
  obtain ⟨xs, h1, n, s, c, rfl, _⟩ := h
  rw [e, h1] at hl
  injection hl with hl
  injection hl with hl
  subst hl
  exact hw (.int n) List.mem_cons_self n rfl
end
section
variable {P : Program} {w : World} {K : PySem.W.Frag} {mg : Str → Option Value} {base : Heap} {f : Addr} {fd : FuncData} {k : Nat}
abbrev s_law_take : Stmt := top 61
theorem sc_law_take : FnScope ["_law_box_here", "_law_below", "_law_once", "_law_odd", "_law_found"] ["_law_box_here", "_law_below"] (defScope s_law_take) := ⟨rfl, rfl, rfl, by decide +kernel, rfl, by decide +kernel, by decide +kernel⟩
def QTake : List V → Hp → VK → Prop := fun vs H Q => ∃ (b : Addr) (m below : Nat), vs = [.ref b, .int (below : Int)] ∧ BAt H b m ∧ m ≤ 1000000 ∧ 0 < below ∧ below ≤ 1000 ∧ ∀ (r : Nat) (H' : Hp), r < below → BStep H b (m + 1) H' → Q (.int (r : Int)) H'
theorem emod_nat {i : Int} {n : Nat} (h : 0 < n) : ∃ r : Nat, r < n ∧ i % (n : Int) = (r : Int) := by
  have h1 := Int.emod_nonneg i (show (n : Int) ≠ 0 by omega)
  have h2 := Int.emod_lt_of_pos i (show (0 : Int) < n by omega)
  exact ⟨(i % (n : Int)).toNat, by omega, by omega⟩
theorem ok_law_take (F : Fun K "_law_take" "_law_take" s_law_take f fd) (T : Gb mg) : FnOk P w K mg base CX0 (k + 1) f fd ["_law_box_here", "_law_below"] (spG QTake) := by
  refine fn_W F sc_law_take (fun vs H Q h => ?_) (fun cdv A outer s H E vs Q oo h => ?_)
  · obtain ⟨b, m, below, rfl, _⟩ := h
    rfl
  · obtain ⟨b, m, below, rfl, hb, hm, hb0, hb1, hQ⟩ := h
    obtain ⟨xs, hH, n, sd, c, rfl, hn, hs0, hs1, hc0, hc1⟩ := id hb
    have dbox : Dat K H (.ref b) (.lst [.int n, .int sd, .int c]) := .lst hH (.cons (.int _) (.cons (.int _) (.cons (.int _) .nil)))
    refine ws_ifE (z := decide (0 < n)) (et_cmp od_gt (ee_ix (i := 0) (ee_var 0 rfl) ee_int rfl) ee_int) (ρ := [some (.lst [.int n, .int sd, .int c]), some (.int (below : Int))]) (.cons dbox (.cons (.int _) .nil)) (fun hz H1 s1 => ?_) (fun hz H1 s1 => ws_nil ?_)
    · obtain ⟨r, hr, er⟩ := emod_nat (i := n) hb0
      refine ws_set 4 oo (we_ee (ee_op (od_modI (i := n) (j := (below : Int)) (by omega)) (ee_int1 T.int (ee_ix (i := 0) (ee_var 0 rfl) ee_int rfl)) (ee_var 1 rfl)) (ρ := [some (.lst [.int n, .int sd, .int c]), some (.int (below : Int))]) (.cons (dbox.mono s1) (.cons (.int _) .nil)) fun v2 H2 s2 dv2 => ?_)
      cases dv2
      refine ws_asg (we_ee (ee_op (od_fdivI (i := n) (j := (below : Int)) ⟨by omega, by omega⟩) (ee_ix (i := 0) (ee_var 0 rfl) ee_int rfl) (ee_var 1 rfl)) (ρ := [some (.lst [.int n, .int sd, .int c]), some (.int (below : Int))]) (.cons ((dbox.mono s1).mono s2) (.cons (.int _) .nil)) fun v3 H3 s3 dv3 => ?_)
      cases dv3
      refine wg_ix (we_var 0 rfl (we_ee ee_int (ρ := []) .nil fun v4 H4 s4 dv4 => ?_))
      cases dv4
      have s14 : Same H H4 := ((s1.trans s2).trans s3).trans s4
      refine ⟨b, _, _, 0, rfl, rfl, s14 _ _ hH, rfl, ws_ret (we_var 4 rfl ?_)⟩
      rw [er]
      refine hQ r _ hr (BStep.box s14 ⟨_, _, _, rfl, Int.ediv_nonneg hn (by omega), hs0, hs1, hc0, by omega⟩)
    · -- the mixed numbers
      refine ws_asg (we_ee (ee_op (od_addI (i := c) (j := 1)) (ee_ix (i := 2) (ee_var 0 rfl) ee_int rfl) ee_int) (ρ := [some (.lst [.int n, .int sd, .int c])]) (.cons (dbox.mono s1) .nil) fun v2 H2 s2 dv2 => ?_)
      cases dv2
      refine wg_ix (we_var 0 rfl (we_ee ee_int (ρ := []) .nil fun v4 H4 s4 dv4 => ?_))
      cases dv4
      have s14 : Same H H4 := (s1.trans s2).trans s4
      refine ⟨b, _, _, 2, rfl, rfl, s14 _ _ hH, rfl, ?_⟩
      have st : BStep H b (m + 1) (upd H4 b (.lst [.int n, .int sd, .int (c + 1)])) := BStep.box s14 ⟨_, _, _, rfl, hn, hs0, hs1, by omega, by omega⟩
      have hH5 : upd H4 b (.lst [.int n, .int sd, .int (c + 1)]) b = some (.lst [.int n, .int sd, .int (c + 1)]) := upd_same
      show WS _ _ _ _ (upd H4 b (.lst [.int n, .int sd, .int (c + 1)]))
      generalize upd H4 b (.lst [.int n, .int sd, .int (c + 1)]) = H5 at st hH5 ⊢
      have dbox5 : Dat K H5 (.ref b) (.lst [.int n, .int sd, .int (c + 1)]) := .lst hH5 (.cons (.int _) (.cons (.int _) (.cons (.int _) .nil)))
      refine ws_set 2 oo (we_ee (ee_op (od_modI (j := 2147483549) (by decide)) (ee_int1 T.int (ee_op (od_powI (i := sd + 51749 * (c + 1)) (j := 3) ⟨by decide, by decide, by omega⟩) (ee_op od_addI (ee_ix (i := 1) (ee_var 0 rfl) ee_int rfl) (ee_op (od_mulI (i := 51749) (j := c + 1) (.inl (by decide))) ee_int (ee_ix (i := 2) (ee_var 0 rfl) ee_int rfl))) ee_int)) ee_int) (ρ := [some (.lst [.int n, .int sd, .int (c + 1)])]) (.cons dbox5 .nil) fun v6 H6 s6 dv6 => ?_)
      have o1 := Int.emod_nonneg ((sd + 51749 * (c + 1)) ^ Int.toNat 3) (show (2147483549 : Int) ≠ 0 by decide)
      have o2 := Int.emod_lt_of_pos ((sd + 51749 * (c + 1)) ^ Int.toNat 3) (show (0 : Int) < 2147483549 by decide)
      generalize (sd + 51749 * (c + 1)) ^ Int.toNat 3 % 2147483549 = once at o1 o2 dv6
      cases dv6
      refine ws_set 3 oo (we_ee (ee_op (od_addI (i := once % 30011) (j := 17)) (ee_op (od_modI (j := 30011) (by decide)) (ee_int1 T.int (ee_var 2 rfl)) ee_int) ee_int) (ρ := [none, none, some (.int once)]) (.skip (.skip (.cons (.int _) .nil))) fun v7 H7 s7 dv7 => ?_)
      generalize once % 30011 + 17 = odd at dv7
      cases dv7
      refine ws_ret (we_ee (ee_op (od_modI (j := (below : Int)) (by omega)) (ee_int1 T.int (ee_op (od_fdivI (j := 32) ⟨by decide, by decide⟩) (ee_op (od_modI (j := 2147483629) (by decide)) (ee_int1 T.int (ee_op od_addI (ee_op (od_mulI (i := once) (j := odd) (.inl ⟨by omega, by omega⟩)) (ee_var 2 rfl) (ee_var 3 rfl)) (ee_op (od_mulI (i := c + 1) (j := 7039) (.inr (by decide))) (ee_ix (i := 2) (ee_var 0 rfl) ee_int rfl) ee_int))) ee_int) ee_int)) (ee_var 1 rfl)) (ρ := [some (.lst [.int n, .int sd, .int (c + 1)]), some (.int (below : Int)), some (.int once), some (.int odd)]) (.cons ((dbox5.mono s6).mono s7) (.cons (.int _) (.cons (.int _) (.cons (.int _) .nil)))) fun v8 H8 s8 dv8 => ?_)
      obtain ⟨r, hr, er⟩ := emod_nat (i := (once * odd + (c + 1) * 7039) % 2147483629 / 32) hb0
      rw [er] at dv8
      cases dv8
      exact hQ r H8 hr (((st.more s6).more s7).more s8)
end
end K74

set_option Elab.async false
set_option linter.all false
set_option maxRecDepth 100000
set_option maxHeartbeats 4000000
/-! K74.KH2: _law_of, _law_picked. -/
namespace K74
open PySem PySem.Spec PyProof.Rows L2
section
variable {P : Program} {w : World} {K : PySem.W.Frag} {mg : Str → Option Value} {base : Heap} {f : Addr} {fd : FuncData} {k : Nat}
abbrev s_law_of : Stmt := top 62
theorem sc_law_of : FnScope ["_law_box_here", "_law_some"] ["_law_box_here", "_law_some"] (defScope s_law_of) := ⟨rfl, rfl, rfl, by decide +kernel, rfl, by decide +kernel, by decide +kernel⟩
def QOf : List V → Hp → VK → Prop := fun vs H Q => ∃ (b : Addr) (m : Nat) (l : Addr) (ws : List V), vs = [.ref b, .ref l] ∧ BAt H b m ∧ m ≤ 1000000 ∧ l ≠ b ∧ H l = some (.lst ws) ∧ ws ≠ [] ∧ ws.length ≤ 1000 ∧ ∀ (x : V) (H' : Hp), x ∈ ws → BStep H b (m + 1) H' → Q x H'
theorem ok_law_of {kt : Nat} (F : Fun K "_law_of" "_law_of" s_law_of f fd) (T : Gb mg) (hk : kt ≤ k) (c_take : Cal P w K mg base kt "_law_take" (spG QTake)) : FnOk P w K mg base CX0 (k + 1) f fd ["_law_box_here", "_law_some"] (spG QOf) := by
  refine fn_W F sc_law_of (fun vs H Q h => ?_) (fun cdv A outer s H E vs Q oo h => ?_)
  · obtain ⟨b, m, l, ws, rfl, _⟩ := h
    rfl
  · obtain ⟨b, m, l, ws, rfl, hb, hm, hlb, hl, hne, hwl, hQ⟩ := h
    refine ws_ret (we_ix (we_var 1 rfl (we_cal c_take oo hk (wa_cons (we_var 0 rfl (wa_cons (we_lenL T.len (we_var 1 rfl ⟨l, ws, rfl, hl, wa_nil ⟨b, m, ws.length, rfl, hb, hm, List.length_pos_iff.mpr hne, hwl, fun r H' hr st => ?_⟩⟩))))))))
    have hx : ws[r]? = some ws[r] := List.getElem?_eq_getElem hr
    exact .inl ⟨l, ws, (r : Int), ws[r], rfl, rfl, SqL.of (st.at hlb hl), atI_nat hx, hQ _ H' (List.mem_of_getElem? hx) st⟩

abbrev s_law_picked : Stmt := top 63
theorem sc_law_picked : FnScope ["_law_box_here", "_law_pool", "_law_most", "_law_turn", "_law_left", "_law_found"] ["_law_box_here", "_law_pool", "_law_most"] (defScope s_law_picked) := ⟨rfl, rfl, rfl, by decide +kernel, rfl, by decide +kernel, by decide +kernel⟩
def QPick : List V → Hp → VK → Prop := fun vs H Q => ∃ (b : Addr) (m : Nat) (l : Addr) (ws : List V) (most : Nat), vs = [.ref b, .ref l, .int (most : Int)] ∧ BAt H b m ∧ m + 20 ≤ 1000000 ∧ l ≠ b ∧ H l = some (.lst ws) ∧ ws.length ≤ 100 ∧ most ≤ 10 ∧
  ∀ (p : Addr) (ys : List V) (H' : Hp), H p = none → BStep H b (m + 20) H' → H' p = some (.lst ys) → (∀ y ∈ ys, y ∈ ws) → ys.length ≤ most → Q (.ref p) H'
theorem ok_law_picked {kt : Nat} (F : Fun K "_law_picked" "_law_picked" s_law_picked f fd) (T : Gb mg) (hk : kt ≤ k) (c_take : Cal P w K mg base kt "_law_take" (spG QTake)) : FnOk P w K mg base CX0 (k + 1) f fd ["_law_box_here", "_law_pool", "_law_most"] (spG QPick) := by
  refine fn_W F sc_law_picked (fun vs H Q h => ?_) (fun cdv A outer s H E vs Q oo h => ?_)
  · obtain ⟨b, m, l, ws, most, rfl, _⟩ := h
    rfl
  · obtain ⟨b, m, l, ws, most, rfl, hb, hm, hlb, hl, hwl, hmost, hQ⟩ := h
    refine ws_par 4 5 oo (wa_cons (we_listL T.list (we_var 1 rfl ⟨l, ws, rfl, hl, fun L hL => wa_cons (we_of (pe_lst pa_nil) ⟨Nat.zero_le _, fun Fd hFd => wa_nil ⟨_, _, rfl, ?_⟩⟩)⟩)))
    have s1 : Same H (upd H L (.lst ws)) := Same.new hL
    have s2 : Same (upd H L (.lst ws)) (upd (upd H L (.lst ws)) Fd (.lst [])) := Same.new hFd
    have hLF : L ≠ Fd := ne_of_none upd_same hFd
    have hF0 : H Fd = none := s1.free hFd
    have hLb : L ≠ b := hb.ne hL
    have hFb : Fd ≠ b := hb.ne hF0
    have hL2 : upd (upd H L (.lst ws)) Fd (.lst []) L = some (.lst ws) := by rw [upd_ne hLF]; exact upd_same
    have hF2 : upd (upd H L (.lst ws)) Fd (.lst []) Fd = some (.lst []) := upd_same
    have st2 : BStep H b m (upd (upd H L (.lst ws)) Fd (.lst [])) := BStep.grow hb (s1.trans s2)
    generalize upd (upd H L (.lst ws)) Fd (.lst []) = H2 at hL2 hF2 st2 ⊢
    let Pv : Nat → L2.St → Hp → Prop := fun i σ H' => ∃ (x3 : Option V) (ls ys : List V), σ = [some (.ref b), some (.ref l), some (.int (most : Int)), x3, some (.ref L), some (.ref Fd)] ∧ BStep H b (m + 1 + i) H' ∧ H' L = some (.lst ls) ∧ H' Fd = some (.lst ys) ∧ (∀ y ∈ ls, y ∈ ws) ∧ ls.length ≤ 100 ∧ (∀ y ∈ ys, y ∈ ws) ∧ ys.length ≤ i
    refine ws_forR oo PassesOwn.never T.range (we_cal c_take oo hk (wa_cons (we_var 0 rfl (wa_cons (we_ee (ee_op (od_addI (i := (most : Int)) (j := 1)) (ee_var 2 rfl) ee_int) (ρ := [none, none, some (.int (most : Int))]) (.skip (.skip (.cons (.int _) .nil))) fun v3 H3 s3 dv3 => ?_)))))
    cases dv3
    refine wa_nil ⟨b, m, most + 1, rfl, st2.at_.grow s3, by omega, by omega, by omega, fun n H4 hn st4 => ⟨n, Pv, rfl, by omega, ?_, ?_, ?_⟩⟩
    · have st24 : BStep H b (m + 1) H4 := (st2.more s3).trans st4
      exact ⟨none, ws, [], rfl, st24, st4.at hLb (s3 _ _ hL2), st4.at hFb (s3 _ _ hF2), fun _ h => h, hwl, (fun _ h => by cases h), Nat.le_refl _⟩
    · rintro i σ H5 hi ⟨x3, ls, ys, rfl, st5, hL5, hF5, hls, hll, hys, hyl⟩
      refine wg_name 3 oo ?_
      refine ws_if (wt_nil (op_neNil oo) (we_var 4 rfl ⟨L, ls, rfl, hL5, fun H6 s6 => ?_⟩))
      have hL6 := s6 _ _ hL5
      have hF6 := s6 _ _ hF5
      have st6 := st5.more s6
      cases ls with
      | nil =>
        exact iteF (ws_nil (ws_nil ⟨_, [], ys, rfl, st6.mono (by omega), hL6, hF6, hls, hll, hys, by omega⟩))
      | cons z zs =>
        refine iteT (ws_append (we_var 5 rfl ⟨Fd, rfl, ⟨ys, hF6⟩, we_pop (we_var 4 rfl ⟨L, rfl, ⟨_, hL6⟩, we_cal c_take oo hk (wa_cons (we_var 0 rfl (wa_cons (we_lenL T.len (we_var 4 rfl ⟨L, z :: zs, rfl, hL6, wa_nil ⟨b, m + 1 + i, (z :: zs).length, rfl, st6.at_, by omega, Nat.succ_pos _, by omega, fun r H7 hr st7 => ?_⟩⟩)))))⟩)⟩))
        have hx : (z :: zs)[r]? = some (z :: zs)[r] := List.getElem?_eq_getElem hr
        generalize (z :: zs)[r] = x at hx
        have hL7 := st7.at hLb hL6
        have hF7 := st7.at hFb hF6
        have st67 : BStep H b (m + 1 + i + 1) H7 := st6.trans st7
        refine ⟨z :: zs, r, x, rfl, hL7, by omega, hx, ys, by rw [upd_ne (Ne.symm hLF)]; exact hF7, Nat.lt_of_le_of_lt (by omega : ys.length ≤ 100) (by decide), ws_nil (ws_nil ⟨_, (z :: zs).eraseIdx r, ys ++ [x], rfl, ((st67.put hL hLb).put hF0 hFb).mono (by omega), ?_, upd_same, ?_, ?_, ?_, ?_⟩)⟩
        · rw [upd_ne hLF]
          exact upd_same
        · exact fun y hy => hls y (List.mem_of_mem_eraseIdx hy)
        · exact Nat.le_trans (List.length_eraseIdx_le ..) hll
        · intro y hy
          rcases List.mem_append.mp hy with h | h
          · exact hys y h
          · have : y = x := by simpa using h
            rw [this]
            exact hls x (List.mem_of_getElem? hx)
        · rw [List.length_append]
          simp only [List.length_cons, List.length_nil]
          omega
    · rintro σ H5 ⟨x3, ls, ys, rfl, st5, hL5, hF5, hls, hll, hys, hyl⟩
      exact ws_ret (we_var 5 rfl (hQ Fd ys H5 hF0 (st5.mono (by omega)) hF5 hys (by omega)))
end
end K74

set_option Elab.async false
set_option linter.all false
set_option maxRecDepth 100000
set_option maxHeartbeats 4000000
/-! K74.KM3: the plain law over the mirrors: rightM is true. -/
namespace K74
open PySem PySem.Spec PyProof.Rows L2

/-- all lines of different names of a pool -/
theorem rowsM_has {ns : List S} {l : List S} (hn : l.Nodup) (hs : ∀ x ∈ l, x ∈ ns) : l ∈ rowsM ns l.length := by
  have go : ∀ (r : List S), r.reverse.Nodup → (∀ x ∈ r, x ∈ ns) → r.reverse ∈ rowsM ns r.length := by
    intro r
    induction r with
    | nil => intro _ _; exact List.mem_cons_self
    | cons x r ih =>
      intro hn hs
      rw [List.reverse_cons] at hn ⊢
      rw [List.nodup_append] at hn
      obtain ⟨h1, _, h3⟩ := hn
      refine List.mem_flatMap.mpr ⟨r.reverse, ih h1 fun y hy => hs y (List.mem_cons_of_mem _ hy), List.mem_map.mpr ⟨x, List.mem_filter.mpr ⟨hs x List.mem_cons_self, ?_⟩, rfl⟩⟩
      have : x ∉ r.reverse := fun h => h3 x h x List.mem_cons_self rfl
      simp only [this, decide_false, Bool.not_false]
  have := go l.reverse (by rw [List.reverse_reverse]; exact hn) (fun x hx => hs x (List.mem_reverse.mp hx))
  rw [List.reverse_reverse, List.length_reverse] at this
  exact this
theorem rowsM_nodup {ns : List S} {m : Nat} : ∀ l ∈ rowsM ns m, l.Nodup := by
  induction m with
  | zero => intro l hl; simp [rowsM] at hl; subst hl; exact List.nodup_nil
  | succ m ih =>
    intro l hl
    obtain ⟨l0, h0, h1⟩ := List.mem_flatMap.mp hl
    obtain ⟨n, hn, rfl⟩ := List.mem_map.mp h1
    have hx : n ∉ l0 := by simpa using (List.mem_filter.mp hn).2
    rw [List.nodup_append]
    refine ⟨ih l0 h0, by simp, ?_⟩
    intro a ha b hb e
    have : b = n := by simpa using hb
    subst this
    subst e
    exact hx ha
theorem others_nodup {G : ProgD} (W : WF G) : (others G).Nodup := by
  have h := W.nd
  unfold others
  rw [(sortS_perm _).nodup_iff, List.map_drop]
  exact h.sublist (List.drop_sublist _ _)
theorem others_mem {G : ProgD} (W : WF G) {x : S} : x ∈ others G ↔ x ∈ names G ∧ x ≠ mainOf G := by
  obtain ⟨libs, pre, doors⟩ := G
  cases libs with
  | nil => exact absurd rfl W.ne
  | cons l r =>
    have e : x ∈ others ⟨l :: r, pre, doors⟩ ↔ x ∈ r.map (·.name) := (sortS_perm _).mem_iff
    rw [e]
    have hnd : (l.name :: r.map (·.name)).Nodup := W.nd
    obtain ⟨h1, h2⟩ := List.nodup_cons.mp hnd
    show _ ↔ x ∈ l.name :: r.map (·.name) ∧ x ≠ l.name
    rw [List.mem_cons]
    constructor
    · intro h
      exact ⟨.inr h, fun z => h1 (z ▸ h)⟩
    · rintro ⟨h | h, hne⟩
      · exact absurd h hne
      · exact h

/-! ### the run without a preload, of the program itself -/
theorem libOf_pre {G : ProgD} {pre : List S} {n : S} : libOf (withPre G pre) n = libOf G n := rfl
theorem needsOf_pre {G : ProgD} {pre : List S} {n : S} : needsOf (withPre G pre) n = needsOf G n := rfl
theorem rowGo_preM {G : ProgD} {pre : List S} : ∀ (k : Nat) (f : List S) (i : Nat), rowGo (withPre G pre) k f i = rowGo G k f i
  | 0, _, _ => rfl
  | k + 1, f, i => by
    unfold rowGo
    cases f[i]? with
    | none => rfl
    | some n => exact rowGo_preM k _ _
theorem rowM_pre {G : ProgD} {pre ns : List S} : rowM (withPre G pre) ns = rowM G ns := rowGo_preM _ _ _
theorem doorRow_pre {G : ProgD} {pre : List S} {k : Nat} : doorRow (withPre G pre) k = doorRow G k := by
  unfold doorRow
  show (match G.doors[k]? with | some d => rowM (withPre G pre) [d.1] | none => []) = _
  cases G.doors[k]? with
  | none => rfl
  | some d => exact rowM_pre
theorem doorsOf_pre {G : ProgD} {pre : List S} {n : S} : doorsOf (withPre G pre) n = doorsOf G n := by
  unfold doorsOf
  show (List.range G.doors.length).filter _ = _
  congr 1
  funext k
  rw [doorRow_pre]
theorem server_pre {G : ProgD} {pre line : List S} {u : UseD} : server (withPre G pre) line u = server G line u := rfl
theorem aloneG_ok {G : ProgD} (W : WK (withPre G [])) : AloneOk G (aloneG G) := by
  have A := aloneM_ok W
  refine ⟨fun n i a hn hd b hb => A.deep n i a ?_ (fun k hk => ?_) b hb⟩
  · rw [rowM_pre]
    exact hn
  · rw [doorsOf_pre] at hk
    obtain ⟨h1, h2⟩ := hd k hk
    refine ⟨h1, ?_⟩
    rw [doorRow_pre, server_pre]
    exact h2

/-! ### what the law asks -/
def isSoM (G : ProgD) (ws : List WantD) : Bool := decide (0 < (((List.range ((others G).length + 1)).map fun m => ((manyM G ws m : Nat) : Int)).sum))
def goodsM (G : ProgD) (ws : List WantD) (fw : List S) (n : Nat) : List (List S) := (List.range n).flatMap fun m => (rowsM fw m).filter fun l => givesAll G (aloneG G) l ws
def goodL (G : ProgD) (ws : List WantD) : List (List S) := goodsM G ws (namesIn G ws) ((namesIn G ws).length + 1)
def rightM (G : ProgD) (ws : List WantD) : Bool :=
  if (decide (goodL G ws ≠ []) != isSoM G ws) || ((leastM G ws).isSome != isSoM G ws) then false
  else match leastM G ws with
    | none => true
    | some l => decide (l.length ≤ ((goodL G ws).headD []).length)
theorem sum_pos {xs : List Nat} {f : Nat → Nat} : 0 < ((xs.map fun m => ((f m : Nat) : Int)).sum) ↔ ∃ m ∈ xs, 0 < f m := by
  have e : ((xs.map fun m => ((f m : Nat) : Int)).sum) = (((xs.map f).sum : Nat) : Int) := by
    induction xs with
    | nil => rfl
    | cons x r ih => rw [List.map_cons, List.sum_cons, List.map_cons, List.sum_cons, ih]; push_cast; rfl
  rw [e]
  constructor
  · intro h
    have h' : 0 < (xs.map f).sum := by omega
    clear e h
    induction xs with
    | nil => simp at h'
    | cons x r ih =>
      rw [List.map_cons, List.sum_cons] at h'
      by_cases hx : 0 < f x
      · exact ⟨x, List.mem_cons_self, hx⟩
      · obtain ⟨m, hm, h⟩ := ih (by omega)
        exact ⟨m, List.mem_cons_of_mem _ hm, h⟩
  · rintro ⟨m, hm, h⟩
    have : f m ≤ (xs.map f).sum := by
      clear e
      induction xs with
      | nil => cases hm
      | cons x r ih =>
        rw [List.map_cons, List.sum_cons]
        rcases List.mem_cons.mp hm with rfl | hm
        · omega
        · have := ih hm
          omega
    omega
theorem isSo_iff {G : ProgD} {ws : List WantD} : isSoM G ws = true ↔ ∃ m ≤ (others G).length, ∃ l ∈ rowsM (others G) m, givesAll G (aloneG G) l ws = true := by
  unfold isSoM
  rw [decide_eq_true_iff, sum_pos (f := manyM G ws)]
  constructor
  · rintro ⟨m, hm, h⟩
    unfold manyM at h
    obtain ⟨l, hl⟩ := List.exists_mem_of_length_pos h
    obtain ⟨h1, h2⟩ := List.mem_filter.mp hl
    exact ⟨m, by have := List.mem_range.mp hm; omega, l, h1, h2⟩
  · rintro ⟨m, hm, l, hl, h⟩
    exact ⟨m, List.mem_range.mpr (by omega), List.length_pos_of_mem (List.mem_filter.mpr ⟨hl, h⟩)⟩
theorem goodL_mem {G : ProgD} {ws : List WantD} {l : List S} : l ∈ goodL G ws ↔ ∃ m ≤ (namesIn G ws).length, l ∈ rowsM (namesIn G ws) m ∧ givesAll G (aloneG G) l ws = true := by
  unfold goodL goodsM
  rw [List.mem_flatMap]
  constructor
  · rintro ⟨m, hm, h⟩
    obtain ⟨h1, h2⟩ := List.mem_filter.mp h
    exact ⟨m, by have := List.mem_range.mp hm; omega, h1, h2⟩
  · rintro ⟨m, hm, h1, h2⟩
    exact ⟨m, List.mem_range.mpr (by omega), List.mem_filter.mpr ⟨h1, h2⟩⟩
theorem possible_iff {G : ProgD} {ws : List WantD} : possibleM G ws = true ↔ ∃ l, l ∈ goodL G ws := by
  unfold possibleM linesM
  rw [List.any_eq_true]
  constructor
  · rintro ⟨l, hl, h⟩
    obtain ⟨m, hm, h1⟩ := List.mem_flatMap.mp hl
    exact ⟨l, goodL_mem.mpr ⟨m, by have := List.mem_range.mp hm; omega, h1, h⟩⟩
  · rintro ⟨l, hl⟩
    obtain ⟨m, hm, h1, h2⟩ := goodL_mem.mp hl
    exact ⟨l, List.mem_flatMap.mpr ⟨m, List.mem_range.mpr (by omega), h1⟩, h2⟩
theorem namesIn_nodup {G : ProgD} (W : WF G) {ws : List WantD} : (namesIn G ws).Nodup := (others_nodup W).sublist List.filter_sublist
/-- of all names, or of the wants' names: the same question -/
theorem small_of_any {G : ProgD} {ws : List WantD} (W : WF G) (A : AloneOk G (aloneG G)) {m : Nat} {l : List S} (hl : l ∈ rowsM (others G) m) (h : givesAll G (aloneG G) l ws = true) : ∃ l', l' ∈ goodL G ws := by
  have hsub : ∀ x ∈ l, x ∈ names G := fun x hx => others_sub (rowsM_sub l hl x hx)
  have k := kept_law W A hsub h
  have hF : ∀ x ∈ mainOf G :: l, x ∈ names G := fun x hx => by
    rcases List.mem_cons.mp hx with rfl | hx
    · exact mainOf_mem W
    · exact hsub x hx
  generalize hk : kept G ws (rowM G (mainOf G :: l)) = Q at k
  have hQ : ∀ x ∈ Q, x ∈ namesIn G ws := fun x hx => by
    rw [← hk] at hx
    obtain ⟨h1, h2⟩ := List.mem_filter.mp hx
    have h3 := of_decide_eq_true h2
    exact List.mem_filter.mpr ⟨(others_mem W).mpr ⟨row_names W hF x h1, h3.1⟩, decide_eq_true h3.2⟩
  have hn : Q.Nodup := by
    rw [← hk]
    exact (row_nodup _).sublist List.filter_sublist
  exact ⟨Q, goodL_mem.mpr ⟨Q.length, nodup_len hn hQ, rowsM_has hn hQ, k⟩⟩
theorem any_of_small {G : ProgD} {ws : List WantD} {l : List S} (hl : l ∈ goodL G ws) : l ∈ goodM G ws l.length ∧ l.length ≤ (others G).length := by
  obtain ⟨m, hm, h1, h2⟩ := goodL_mem.mp hl
  have e := rowsM_len l h1
  subst e
  refine ⟨List.mem_filter.mpr ⟨rowsM_has (rowsM_nodup l h1) fun x hx => namesIn_sub x (rowsM_sub l h1 x hx), h2⟩, Nat.le_trans hm namesIn_len⟩
theorem least_spec {f : Nat → List (List S)} (hf : ∀ m, ∀ l ∈ f m, l.length = m) {n m0 : Nat} {l0 : List S} (h0 : l0 ∈ f m0) (hn : m0 < n) : ∃ l, (List.range n).findSome? (fun m => (f m).head?) = some l ∧ l.length ≤ m0 := by
  induction m0 using Nat.strongRecOn generalizing l0 with
  | _ m0 ih =>
    by_cases hs : ∃ m1, m1 < m0 ∧ f m1 ≠ []
    · obtain ⟨m1, h1, h2⟩ := hs
      cases e : f m1 with
      | nil => exact absurd e h2
      | cons a r =>
        obtain ⟨l, g1, g2⟩ := ih m1 h1 (l0 := a) (by rw [e]; exact List.mem_cons_self) (by omega)
        exact ⟨l, g1, by omega⟩
    · have hnone : (List.range m0).findSome? (fun m => (f m).head?) = none := List.findSome?_eq_none_iff.mpr fun m hm => by
        have : f m = [] := Classical.byContradiction fun z => hs ⟨m, List.mem_range.mp hm, z⟩
        rw [this]
        rfl
      cases e : f m0 with
      | nil => rw [e] at h0; cases h0
      | cons a r =>
        refine ⟨a, findR hnone (by rw [e]; rfl) hn, ?_⟩
        rw [hf m0 a (by rw [e]; exact List.mem_cons_self)]
        exact Nat.le_refl _
theorem rightM_true {G : ProgD} {ws : List WantD} (pt : PT0 G) : rightM G ws = true := by
  have A := aloneG_ok pt.wk
  by_cases hp : possibleM G ws = true
  · obtain ⟨l, hl⟩ := possible_iff.mp hp
    have hne : goodL G ws ≠ [] := fun z => by rw [z] at hl; cases hl
    have hso : isSoM G ws = true := by
      obtain ⟨h1, h2⟩ := any_of_small hl
      obtain ⟨h3, h4⟩ := List.mem_filter.mp h1
      exact isSo_iff.mpr ⟨_, h2, l, h3, h4⟩
    cases hg : goodL G ws with
    | nil => exact absurd hg hne
    | cons g r =>
      have hgm : g ∈ goodL G ws := by rw [hg]; exact List.mem_cons_self
      obtain ⟨h1, h2⟩ := any_of_small hgm
      obtain ⟨l', e1, e2⟩ := least_spec (f := goodM G ws) (fun m l hl => rowsM_len l (List.mem_filter.mp hl).1) h1 (n := (others G).length + 1) (by omega)
      have hle : leastM G ws = some l' := by
        unfold leastM
        rw [if_pos hp]
        exact e1
      unfold rightM
      rw [hso, hle, hg]
      simp
      exact e2
  · have hg : goodL G ws = [] := by
      cases e : goodL G ws with
      | nil => rfl
      | cons g r => exact absurd (possible_iff.mpr ⟨g, by rw [e]; exact List.mem_cons_self⟩) hp
    have hso : isSoM G ws = false := by
      cases e : isSoM G ws with
      | false => rfl
      | true =>
        obtain ⟨m, hm, l, hl, h⟩ := isSo_iff.mp e
        exact absurd (possible_iff.mpr (small_of_any pt.wf A hl h)) hp
    have hle : leastM G ws = none := by
      unfold leastM
      rw [if_neg hp]
    unfold rightM
    rw [hg, hso, hle]
    rfl
end K74

set_option Elab.async false
set_option linter.all false
set_option maxRecDepth 100000
set_option maxHeartbeats 4000000
/-! K74.KH3: the law's helpers that draw nothing: _law_lib, _law_gives, _law_calls, _law_rows, _law_others. -/
namespace K74
open PySem PySem.Spec PyProof.Rows L2
theorem at0 {α : Type} {g : α → D} {x : α} {r : List α} : (D.lst ((x :: r).map g)).at 0 = some (g x) := atI_nat (i := 0) rfl
section
variable {P : Program} {w : World} {K : PySem.W.Frag} {mg : Str → Option Value} {base : Heap} {f : Addr} {fd : FuncData} {k : Nat}
abbrev s_law_lib : Stmt := top 65
theorem sc_law_lib : FnScope ["_law_prog", "_law_who", "_law_own"] ["_law_prog", "_law_who"] (defScope s_law_lib) := ⟨rfl, rfl, rfl, by decide +kernel, rfl, by decide +kernel, by decide +kernel⟩
def RLawLib : Hp → List D → D → Prop := fun _ ds d => ∃ (G : ProgD) (n : S) (l : LibD), ds = [encProg G, .str n] ∧ d = encLib l ∧ libOf G n = some l ∧ G.libs.length ≤ 8
theorem ok_law_lib (F : Fun K "_law_lib" "_law_lib" s_law_lib f fd) : FnOk P w K mg base CX0 (k + 1) f fd ["_law_prog", "_law_who"] (spP K RLawLib) := by
  refine fn_P F sc_law_lib (fun H ds d h => ?_) (fun cdv A outer s H E ds d oo h => ?_)
  · obtain ⟨G, n, l, rfl, _⟩ := h
    rfl
  · obtain ⟨G, n, l, rfl, rfl, hl, hz⟩ := h
    unfold libOf at hl
    refine bs_retIs (ee_ix (i := 0) (da := .lst ((G.libs.filter fun l => decide (l.name = n)).map encLib)) (d := encLib l) ?_ ee_int ?_) rfl
    · exact ee_lc oo (lc_mk (xs := G.libs) (enc := encLib) (p := fun l => decide (l.name = n)) (f := encLib) (ρ' := fun l => [some (encProg G), some (.str n), some (encLib l)]) [("_law_own", 2)] (blkOk_by rfl) (si_tup (ee_ix (ee_var 0 rfl) ee_int rfl)) (fun _ _ _ _ _ => pg_name (i := 2) oo.nd rfl (Or.inl rfl)) (fun x hx => tg_name)
        (fun _ _ _ _ _ x hx => ets_one (et_cmp od_eqS (ee_ix (ee_var 2 rfl) ee_int rfl) (ee_var 1 rfl))) (fun _ _ _ _ _ x hx hp => (ee_var 2 rfl)) (own1 rfl) (fun x hx => imm_lib) (sz8 hz))
    cases hq : G.libs.filter fun l => decide (l.name = n) with
    | nil => rw [hq] at hl; cases hl
    | cons a r =>
      rw [hq] at hl
      cases hl
      exact at0

/-- the version that the law's own reading says -/
def lawSome (l : LibD) (u : UseD) : List (S × S) := l.defs.filter fun d => decide (d.1 = u.1) && (decide (d.2 ∈ [sE, u.2.1]) || decide (u.2.1 = sE))
def lawGives (l : LibD) (u : UseD) : Option S := match (lawSome l u).filter (fun d => decide (d.2 = u.2.1)) ++ lawSome l u with
  | [] => none
  | d :: _ => some d.2
abbrev s_law_gives : Stmt := top 66
theorem sc_law_gives : FnScope ["_law_prog", "_law_who", "_law_use", "_law_some", "_law_exact", "_law_own"] ["_law_prog", "_law_who", "_law_use"] (defScope s_law_gives) := ⟨rfl, rfl, rfl, by decide +kernel, rfl, by decide +kernel, by decide +kernel⟩
def RLawGives : Hp → List D → D → Prop := fun _ ds d => ∃ (G : ProgD) (n : S) (l : LibD) (u : UseD), ds = [encProg G, .str n, encUse u] ∧ d = encOptS (lawGives l u) ∧ libOf G n = some l ∧ G.libs.length ≤ 8 ∧ l.defs.length ≤ 8
theorem ok_law_gives {kl : Nat} (F : Fun K "_law_gives" "_law_gives" s_law_gives f fd) (hk : kl ≤ k) (c_lib : Cal P w K mg base kl "_law_lib" (spP K RLawLib)) : FnOk P w K mg base CX0 (k + 1) f fd ["_law_prog", "_law_who", "_law_use"] (spP K RLawGives) := by
  refine fn_P F sc_law_gives (fun H ds d h => ?_) (fun cdv A outer s H E ds d oo h => ?_)
  · obtain ⟨G, n, l, u, rfl, _⟩ := h
    rfl
  · obtain ⟨G, n, l, u, rfl, rfl, hl, hz, hd⟩ := h
    refine bs_setLc 3 oo (lc_mk (xs := l.defs) (enc := encPair) (p := fun d => decide (d.1 = u.1) && (decide (d.2 ∈ [sE, u.2.1]) || decide (u.2.1 = sE))) (f := encPair) (ρ' := fun d => [some (encProg G), some (.str n), some (encUse u), none, none, some (encPair d)]) [("_law_own", 5)] (blkOk_by rfl)
      (si_tup (ee_ix (da := encLib l) (ee_call c_lib oo hk (ea_cons (ee_var 0 rfl) (ea_cons (ee_var 1 rfl) ea_nil)) (fun _ _ => ⟨G, n, l, rfl, rfl, hl, hz⟩)) ee_int rfl)) (fun _ _ _ _ _ => pg_name (i := 5) oo.nd rfl (Or.inl rfl)) (fun x hx => tg_name)
      (fun _ _ _ _ _ x hx => ets_one (et_and (et_cmp od_eqS (ee_ix (ee_var 5 rfl) ee_int rfl) (ee_ix (ee_var 2 rfl) ee_int rfl)) fun h1 => (et_or (et_cmp (od_inS oo.blk (xs := [sE, u.2.1])) (ee_ix (ee_var 5 rfl) ee_int rfl) (ee_tup (ea_cons ee_str (ea_cons (ee_ix (ee_var 2 rfl) ee_int rfl) ea_nil)))) fun h2 => (et_cmp od_eqS (ee_ix (ee_var 2 rfl) ee_int rfl) ee_str)))) (fun _ _ _ _ _ x hx hp => (ee_var 5 rfl)) (own1 rfl) (fun x hx => rfl) (sz8 hd)) ?_
    have hsl : (lawSome l u).length ≤ 8 := Nat.le_trans (List.length_filter_le ..) hd
    refine bs_setLc 4 oo (lc_mk (xs := lawSome l u) (enc := encPair) (p := fun d => decide (d.2 = u.2.1)) (f := encPair) (ρ' := fun d => [some (encProg G), some (.str n), some (encUse u), some (.lst ((lawSome l u).map encPair)), none, some (encPair d)]) [("_law_own", 5)] (blkOk_by rfl) (si_lst (ee_var 3 rfl)) (fun _ _ _ _ _ => pg_name (i := 5) oo.nd rfl (Or.inl rfl)) (fun x hx => tg_name)
      (fun _ _ _ _ _ x hx => ets_one (et_cmp od_eqS (ee_ix (ee_var 5 rfl) ee_int rfl) (ee_ix (ee_var 2 rfl) ee_int rfl))) (fun _ _ _ _ _ x hx hp => (ee_var 5 rfl)) (own1 rfl) (fun x hx => rfl) (sz8 hsl)) ?_
    have hel : ((lawSome l u).filter fun d => decide (d.2 = u.2.1)).length ≤ 8 := Nat.le_trans (List.length_filter_le ..) hsl
    have fin : ∀ xs : List (S × S), fines (xs.map encPair) = true := fun xs => by
      induction xs with
      | nil => rfl
      | cons x r ih => exact ih
    have dp : ∀ xs : List (S × S), (D.lst (xs.map encPair)).deep ≤ 60 := fun xs => by
      have : deeps (xs.map encPair) ≤ 1 := by
        induction xs with
        | nil => exact Nat.zero_le _
        | cons x r ih => exact Nat.max_le.mpr ⟨by show max 0 (max 0 0) + 1 ≤ 1; decide, ih⟩
      show deeps (xs.map encPair) + 1 ≤ 60
      omega
    have cm : ∀ xs : List (S × S), cmpD (D.lst (xs.map encPair)) (.lst []) = true := fun xs => by cases xs <;> rfl
    by_cases hs : lawSome l u = []
    · refine bs_retIs (ee_if (x := false) (et_is ?_ (et_cmp (od_neD oo (da := .lst ((lawSome l u).map encPair)) (db := .lst []) rfl (dp _) (cm _) (fin _) rfl) (ee_var 3 rfl) (ee_lst ea_nil))) (d1 := .non) (fun h => by cases h) (fun h => ee_non)) ?_
      · rw [hs]
        rfl
      · unfold lawGives
        rw [hs]
        rfl
    · obtain ⟨c, t, hq⟩ : ∃ c t, (lawSome l u).filter (fun d => decide (d.2 = u.2.1)) ++ lawSome l u = c :: t := by
        cases hq : (lawSome l u).filter (fun d => decide (d.2 = u.2.1)) ++ lawSome l u with
        | nil => exact absurd (List.append_eq_nil_iff.mp hq).2 hs
        | cons c t => exact ⟨c, t, rfl⟩
      refine bs_retIs (ee_if (x := true) (d2 := .non) (et_is ?_ (et_cmp (od_neD oo (da := .lst ((lawSome l u).map encPair)) (db := .lst []) rfl (dp _) (cm _) (fin _) rfl) (ee_var 3 rfl) (ee_lst ea_nil))) (fun h => (ee_ix (da := encPair c) (d := .str c.2) (ee_ix (i := 0) (da := .lst ((c :: t).map encPair)) (ee_is (by rw [← hq, List.map_append]) (ee_op (od_addL (xs := ((lawSome l u).filter fun d => decide (d.2 = u.2.1)).map encPair) (ys := (lawSome l u).map encPair) (by
          simp only [List.length_map]
          exact Nat.le_trans (by omega : _ ≤ 16) (by decide))) (ee_var 4 rfl) (ee_var 3 rfl))) ee_int at0) ee_int rfl)) (fun h => by cases h)) ?_
      · cases hs2 : lawSome l u with
        | nil => exact absurd hs2 hs
        | cons a r => rfl
      · unfold lawGives
        rw [hq]
        rfl

def callsM (G : ProgD) : List (S × Nat) := G.libs.flatMap fun l => (List.range l.uses.length).map fun i => (l.name, i)
def encCall (c : S × Nat) : D := .tup [.str c.1, .int (c.2 : Int)]
abbrev s_law_calls : Stmt := top 67
theorem sc_law_calls : FnScope ["_law_prog", "_law_found", "_law_own", "_law_i"] ["_law_prog"] (defScope s_law_calls) := ⟨rfl, rfl, rfl, by decide +kernel, rfl, by decide +kernel, by decide +kernel⟩
def RLawCalls : Hp → List D → D → Prop := fun _ ds d => ∃ (G : ProgD), ds = [encProg G] ∧ d = .lst ((callsM G).map encCall) ∧ SZ G
theorem calls_len {ls : List LibD} (h : ls.length ≤ 8) (hu : ∀ l ∈ ls, l.uses.length ≤ 8) : (ls.flatMap fun l => (List.range l.uses.length).map fun i => (l.name, i)).length ≤ 64 := by
  have g : ∀ ls : List LibD, (∀ l ∈ ls, l.uses.length ≤ 8) → (ls.flatMap fun l => (List.range l.uses.length).map fun i => (l.name, i)).length ≤ ls.length * 8 := by
    intro ls
    induction ls with
    | nil => intro _; simp
    | cons x r ih =>
      intro hu
      rw [List.flatMap_cons, List.length_append, List.length_map, List.length_range, List.length_cons, Nat.succ_mul, Nat.add_comm]
      exact Nat.add_le_add (ih fun y hy => hu y (List.mem_cons_of_mem _ hy)) (hu x List.mem_cons_self)
  have := g ls hu
  omega
theorem ok_law_calls (F : Fun K "_law_calls" "_law_calls" s_law_calls f fd) (T : Gb mg) : FnOk P w K mg base CX0 (k + 1) f fd ["_law_prog"] (spP K RLawCalls) := by
  refine fn_P F sc_law_calls (fun H ds d h => ?_) (fun cdv A outer s H E ds d oo h => ?_)
  · obtain ⟨G, rfl, _⟩ := h
    rfl
  · obtain ⟨G, rfl, rfl, hz⟩ := h
    refine bs_set 1 oo (ee_lst ea_nil) ?_
    let part : Nat → List (S × Nat) := fun i => (G.libs.take i).flatMap fun l => (List.range l.uses.length).map fun i => (l.name, i)
    refine bs_forN (ds := G.libs.map encLib) (vs := [2]) (ρf := fun i => [some (encProg G), some (.lst ((part i).map encCall)), none, none]) (ρ' := fun i d => [some (encProg G), some (.lst ((part i).map encCall)), some d, none]) oo PassesOwn.never (si_tup (ee_ix (ee_var 0 rfl) ee_int rfl)) (.cons (.cons (.skip (.skip .nil)))) (pg_name (i := 2) oo.nd rfl (Or.inr rfl)) (fun i d hd => tg_name) (fun i d hd => ?_) ?_
    · obtain ⟨l, hl, rfl⟩ : ∃ l, G.libs[i]? = some l ∧ encLib l = d := by
        rw [List.getElem?_map] at hd
        cases q : G.libs[i]? with
        | none => rw [q] at hd; cases hd
        | some l => rw [q] at hd; exact ⟨l, rfl, Option.some.inj hd⟩
      have hlm := List.mem_of_getElem? hl
      have hu8 := hz.uses l hlm
      have ep : part (i + 1) = part i ++ (List.range l.uses.length).map fun i => (l.name, i) := by
        show (G.libs.take (i + 1)).flatMap _ = _
        rw [take_len hl, List.flatMap_append]
        simp [part]
      have hlen : (part i).length ≤ 64 := calls_len (Nat.le_trans (List.length_take_le _ _) (Nat.le_trans (Nat.le_of_lt (List.getElem?_eq_some_iff.mp hl).1) hz.libs)) fun x hx => hz.uses x (List.mem_of_mem_take hx)
      refine bs_set 1 oo (ee_is (d' := .lst ((part (i + 1)).map encCall)) (by rw [ep, List.map_append]) (ee_op (od_addL (xs := (part i).map encCall) (ys := ((List.range l.uses.length).map fun i => (l.name, i)).map encCall) (by
          simp only [List.length_map, List.length_range]
          exact Nat.le_trans (by omega : _ ≤ 72) (by decide))) (ee_var 1 rfl) (ee_lc oo (lc_is (by rw [List.filter_eq_self.mpr (fun _ _ => rfl), List.map_map]; rfl) (lc_mk (xs := List.range l.uses.length) (enc := fun (i : Nat) => D.int (i : Int)) (p := fun _ => true) (f := fun i => encCall (l.name, i)) (ρ' := fun (j : Nat) => [some (encProg G), some (.lst ((part i).map encCall)), some (encLib l), some (.int (j : Int))]) [("_law_i", 3)] (blkOk_by rfl) (si_range T.range (ee_len T.len (ee_ix (ee_var 2 rfl) ee_int rfl) len_map) (by omega)) (fun _ _ _ _ _ => pg_name (i := 3) oo.nd rfl (Or.inl rfl)) (fun x hx => tg_name) (fun _ _ _ _ _ x hx => ets_nil) (fun _ _ _ _ _ x hx hp => (ee_tup (ea_cons (ee_ix (ee_var 2 rfl) ee_int rfl) (ea_cons (ee_var 3 rfl) ea_nil)))) (own1 rfl) (fun x hx => rfl) (by rw [List.length_range]; exact sz8 hu8)))))) (bs_nil (.cons (.cons (.skip (.skip .nil)))))
    · have e : part (G.libs.map encLib).length = callsM G := by
        show (G.libs.take _).flatMap _ = _
        rw [List.length_map, List.take_length]
        rfl
      rw [e]
      exact bs_ret (ee_var 1 rfl)

abbrev s_law_rows : Stmt := top 70
theorem sc_law_rows : FnScope ["_law_pool", "_law_size", "_law_found", "_law_turn", "_law_some", "_law_bunch", "_law_own"] ["_law_pool", "_law_size"] (defScope s_law_rows) := ⟨rfl, rfl, rfl, by decide +kernel, rfl, by decide +kernel, by decide +kernel⟩
def RLawRows : Hp → List D → D → Prop := fun _ ds d => ∃ (ns : List S) (m : Nat), ds = [.lst (ns.map D.str), .int (m : Int)] ∧ d = .lst ((rowsM ns m).map encLine) ∧ ns.length ≤ 4 ∧ m ≤ 4
theorem ok_law_rows (F : Fun K "_law_rows" "_law_rows" s_law_rows f fd) (T : Gb mg) : FnOk P w K mg base CX0 (k + 1) f fd ["_law_pool", "_law_size"] (spP K RLawRows) := by
  refine fn_P F sc_law_rows (fun H ds d h => ?_) (fun cdv A outer s H E ds d oo h => ?_)
  · obtain ⟨ns, m, rfl, _⟩ := h
    rfl
  · obtain ⟨ns, m, rfl, rfl, hn, hm⟩ := h
    refine bs_set 2 oo (ee_lst (ea_cons (ee_tup ea_nil) ea_nil)) ?_
    refine bs_forN (ds := (List.range m).map fun (i : Nat) => D.int (i : Int)) (vs := [3]) (ρf := fun i => [some (.lst (ns.map D.str)), some (.int (m : Int)), some (.lst ((rowsM ns i).map encLine)), none, none, none, none]) (ρ' := fun i d => [some (.lst (ns.map D.str)), some (.int (m : Int)), some (.lst ((rowsM ns i).map encLine)), some d, none, none, none]) oo PassesOwn.never (si_range T.range (ee_var 1 rfl) (by omega)) (.cons (.cons (.cons (.skip (.skip (.skip (.skip .nil))))))) (pg_name (i := 3) oo.nd rfl (Or.inl rfl)) (fun i d hd => tg_name) (fun i d hd => ?_) ?_
    · have him : i < m := by
        have := (List.getElem?_eq_some_iff.mp hd).1
        simpa using this
      have hc : (rowsM ns i).length ≤ 256 := rowsM_c4 hn (by omega)
      refine bs_set 4 oo (ee_var 2 rfl) (bs_set 2 oo (ee_lst ea_nil) ?_)
      let grow : List S → List (List S) := fun l => (ns.filter fun n => !decide (n ∈ l)).map fun n => l ++ [n]
      let part : Nat → List (List S) := fun j => ((rowsM ns i).take j).flatMap grow
      have hg : ∀ l, (grow l).length ≤ 4 := fun l => by
        show ((ns.filter _).map _).length ≤ 4
        rw [List.length_map]
        exact Nat.le_trans (List.length_filter_le ..) hn
      have hgl : ∀ ls : List (List S), (ls.flatMap grow).length ≤ ls.length * 4 := by
        intro ls
        induction ls with
        | nil => simp
        | cons x r ih =>
          rw [List.flatMap_cons, List.length_append, List.length_cons, Nat.succ_mul, Nat.add_comm]
          exact Nat.add_le_add ih (hg x)
      refine bs_forN (ds := (rowsM ns i).map encLine) (vs := [5]) (ρf := fun j => [some (.lst (ns.map D.str)), some (.int (m : Int)), some (.lst ((part j).map encLine)), none, some (.lst ((rowsM ns i).map encLine)), none, none]) (ρ' := fun j d => [some (.lst (ns.map D.str)), some (.int (m : Int)), some (.lst ((part j).map encLine)), none, some (.lst ((rowsM ns i).map encLine)), some d, none]) oo PassesOwn.never (si_lst (ee_var 4 rfl)) (.cons (.cons (.cons (.skip (.cons (.skip (.skip .nil))))))) (pg_name (i := 5) oo.nd rfl (Or.inr rfl)) (fun j d hd => tg_name) (fun j d hd => ?_) ?_
      · obtain ⟨l, hl, rfl⟩ : ∃ l, (rowsM ns i)[j]? = some l ∧ encLine l = d := by
          rw [List.getElem?_map] at hd
          cases q : (rowsM ns i)[j]? with
          | none => rw [q] at hd; cases hd
          | some l => rw [q] at hd; exact ⟨l, rfl, Option.some.inj hd⟩
        have hlm := List.mem_of_getElem? hl
        have hll := rowsM_len l hlm
        have ep : part (j + 1) = part j ++ grow l := by
          show ((rowsM ns i).take (j + 1)).flatMap _ = _
          rw [take_len hl, List.flatMap_append]
          simp [part]
        have hpl : (part j).length ≤ 1024 := by
          have h1 := hgl ((rowsM ns i).take j)
          have h2 := List.length_take_le j (rowsM ns i)
          have h3 := (List.getElem?_eq_some_iff.mp hl).1
          show (((rowsM ns i).take j).flatMap grow).length ≤ 1024
          omega
        have h4 := hg l
        refine bs_set 2 oo (ee_is (d' := .lst ((part (j + 1)).map encLine)) (by rw [ep, List.map_append]) (ee_op (od_addL (xs := (part j).map encLine) (ys := (grow l).map encLine) (by
            simp only [List.length_map]
            exact Nat.le_trans (by omega : _ ≤ 1028) (by decide))) (ee_var 2 rfl) (ee_lc oo (lc_is (by rw [List.map_map]; rfl) (lc_mk (xs := ns) (enc := D.str) (p := fun n => !decide (n ∈ l)) (f := fun n => encLine (l ++ [n])) (ρ' := fun n => [some (.lst (ns.map D.str)), some (.int (m : Int)), some (.lst ((part j).map encLine)), none, some (.lst ((rowsM ns i).map encLine)), some (encLine l), some (.str n)]) [("_law_own", 6)] (blkOk_by rfl) (si_lst (ee_var 0 rfl)) (fun _ _ _ _ _ => pg_name (i := 6) oo.nd rfl (Or.inl rfl)) (fun x hx => tg_name)
              (fun _ _ _ _ _ x hx => ets_one (et_cmp (od_notInS oo.blk (xs := l)) (ee_var 6 rfl) (ee_var 5 rfl))) (fun _ _ _ _ _ x hx hp => ee_is (by unfold encLine; rw [List.map_append]; rfl) (ee_op (od_addT (xs := l.map D.str) (ys := [.str x]) (by
                rw [List.length_map]
                exact Nat.le_trans (by simp; omega : _ ≤ 6) (by decide))) (ee_var 5 rfl) (ee_tup (ea_cons (ee_var 6 rfl) ea_nil)))) (own1 rfl) (fun x hx => imms_strs) (sz8 (by omega))))))) (bs_nil (.cons (.cons (.cons (.skip (.cons (.skip (.skip .nil))))))))
      · have e : part ((rowsM ns i).map encLine).length = rowsM ns (i + 1) := by
          show ((rowsM ns i).take _).flatMap grow = _
          rw [List.length_map, List.take_length]
          rfl
        rw [e]
        exact bs_nil (.cons (.cons (.cons (.skip (.skip (.skip (.skip .nil)))))))
    · have e : ((List.range m).map fun (i : Nat) => D.int (i : Int)).length = m := by simp
      rw [e]
      exact bs_ret (ee_var 2 rfl)

abbrev s_law_others : Stmt := top 71
theorem sc_law_others : FnScope ["_law_prog", "_law_own"] ["_law_prog"] (defScope s_law_others) := ⟨rfl, rfl, rfl, by decide +kernel, rfl, by decide +kernel, by decide +kernel⟩
theorem ok_law_others (F : Fun K "_law_others" "_law_others" s_law_others f fd) (T : Gb mg) : FnOk P w K mg base CX0 (k + 1) f fd ["_law_prog"] (spN K ROthers) := by
  refine fn_WN F sc_law_others (fun H ds d h => ?_) (fun cdv A outer s H E vs ds es Q oo h hvs hQ => ?_)
  · obtain ⟨Q, rfl, _⟩ := h
    rfl
  · obtain ⟨G, rfl, rfl, hz⟩ := h
    have hz1 := hz.libs
    refine ws_ret (we_en (en_sortedS T.sorted (ee_lc oo (lc_is (by rw [List.filter_eq_self.mpr (fun _ _ => rfl), List.map_map]; rfl) (lc_mk (xs := G.libs.drop 1) (enc := encLib) (p := fun _ => true) (f := fun l => .str l.name) (ρ' := fun l => [some (encProg G), some (encLib l)]) [("_law_own", 1)] (blkOk_by rfl) (si_tup (by
        rw [List.map_drop]
        exact ee_from (ee_ix (ee_var 0 rfl) ee_int rfl) ee_int (pe_slice sl_tupA (ee_ix (ee_var 0 rfl) ee_int rfl) (po_some ee_int) po_none)))
      (fun _ _ _ _ _ => pg_name (i := 1) oo.nd rfl (Or.inl rfl)) (fun x hx => tg_name) (fun _ _ _ _ _ x hx => ets_nil) (fun _ _ _ _ _ x hx hp => (ee_ix (ee_var 1 rfl) ee_int rfl)) (own1 rfl) (fun x hx => rfl) (by rw [List.length_drop]; exact sz8 (by omega))))) (xs := (G.libs.drop 1).map (·.name)) (by rw [List.length_map, List.length_drop]; omega)) (ρ := startR ["_law_prog", "_law_own"] [encProg G]) (EL.start hvs) fun l ws H2 hl s2 h2 hd => hQ l ws H2 hl s2 h2 (by unfold others; exact hd))
end
end K74

set_option Elab.async false
set_option linter.all false
set_option maxRecDepth 100000
set_option maxHeartbeats 4000000
/-! K74.KH4: _law_prog_right. -/
namespace K74
open PySem PySem.Spec PyProof.Rows L2
theorem right_facts {G : ProgD} {ws : List WantD} (pt : PT0 G) : decide (goodL G ws ≠ []) = isSoM G ws ∧ (leastM G ws).isSome = isSoM G ws ∧ ∀ l, leastM G ws = some l → ∃ g r, goodL G ws = g :: r ∧ l.length ≤ g.length := by
  have h := rightM_true (ws := ws) pt
  unfold rightM at h
  split at h
  · cases h
  · rename_i hn
    have hn' : ((decide (goodL G ws ≠ []) != isSoM G ws) || ((leastM G ws).isSome != isSoM G ws)) = false := by simpa using hn
    rw [Bool.or_eq_false_iff] at hn'
    have h1 : decide (goodL G ws ≠ []) = isSoM G ws := bne_eq_false_iff_eq.mp hn'.1
    have h2 : (leastM G ws).isSome = isSoM G ws := bne_eq_false_iff_eq.mp hn'.2
    refine ⟨h1, h2, fun l hl => ?_⟩
    rw [hl] at h h2
    cases hg : goodL G ws with
    | nil =>
      rw [hg] at h1
      rw [← h1] at h2
      simp at h2
    | cons g r =>
      rw [hg] at h
      exact ⟨g, r, rfl, of_decide_eq_true h⟩
theorem goodsM_succ {G : ProgD} {ws : List WantD} {fw : List S} {n : Nat} : goodsM G ws fw (n + 1) = goodsM G ws fw n ++ (rowsM fw n).filter fun l => givesAll G (aloneG G) l ws := by
  unfold goodsM
  rw [List.range_succ, List.flatMap_append]
  simp
theorem goodsM_len {G : ProgD} {ws : List WantD} {fw : List S} (hf : fw.length ≤ 4) {n : Nat} (hn : n ≤ 5) : (goodsM G ws fw n).length ≤ 1280 := by
  have := flat_len (xs := List.range n) (f := fun m => (rowsM fw m).filter fun l => givesAll G (aloneG G) l ws) (c := 256) fun m hm => Nat.le_trans (List.length_filter_le ..) (rowsM_c4 hf (by have := List.mem_range.mp hm; omega))
  rw [List.length_range] at this
  unfold goodsM
  omega
theorem fine_lines : ∀ {xs : List (List S)}, fines (xs.map encLine) = true
  | [] => rfl
  | x :: r => by
    show (fines (x.map D.str) && fines (r.map encLine)) = true
    rw [fines_str, fine_lines]
    rfl
theorem deep_strs : ∀ {xs : List S}, deeps (xs.map D.str) = 0
  | [] => rfl
  | x :: r => by
    show max 0 (deeps (r.map D.str)) = 0
    rw [deep_strs]
    rfl
theorem deep_lines {xs : List (List S)} : (D.lst (xs.map encLine)).deep ≤ 60 := by
  have : deeps (xs.map encLine) ≤ 1 := by
    induction xs with
    | nil => exact Nat.zero_le _
    | cons x r ih =>
      refine Nat.max_le.mpr ⟨?_, ih⟩
      show deeps (x.map D.str) + 1 ≤ 1
      rw [deep_strs]
      exact Nat.le_refl _
  show deeps (xs.map encLine) + 1 ≤ 60
  omega
theorem cmp_nil {ds : List D} : cmpD (D.lst ds) (.lst []) = true := by cases ds <;> rfl
def RMany : Hp → List D → D → Prop := fun _ ds d => ∃ (G : ProgD) (ws : List WantD) (m : Nat), ds = [encProg G, .tup (ws.map encWant), .int (m : Int)] ∧ d = .int ((manyM G ws m : Nat) : Int) ∧ PT0 G ∧ (others G).length ≤ 4 ∧ (∀ w ∈ ws, WOk G w) ∧ ws.length ≤ 64 ∧ m ≤ 4
theorem many_P {P : Program} {w : World} {K : PySem.W.Frag} {mg : Str → Option Value} {base : Heap} {k : Nat} {x : S} (c : Cal P w K mg base k x (spG (QMany K))) : Cal P w K mg base k x (spP K RMany) :=
  c.imp fun vs H Q E ⟨ds, d, ⟨G, ws, m, e1, e2, pt, ho, wok, hwl, hm⟩, hd, q⟩ => by
    subst e1
    subst e2
    cases hd with
    | cons h1 r =>
      cases r with
      | cons h2 r =>
        cases r with
        | cons h3 r =>
          cases r
          cases h3
          exact ⟨_, _, G, ws, m, rfl, h1, h2, pt, ho, wok, hwl, hm, fun H' s' => q _ H' s' (.int _)⟩
section
variable {P : Program} {w : World} {K : PySem.W.Frag} {mg : Str → Option Value} {base : Heap} {f : Addr} {fd : FuncData} {k : Nat}
abbrev s_law_prog_right : Stmt := top 72
theorem sc_law_prog_right : FnScope ["_law_prog", "_law_wishes_here", "_law_pool", "_law_is_so", "_law_named", "_law_few", "_law_good", "_law_size", "_law_least", "_law_title", "_law_mine", "_law_bunch"] ["_law_prog", "_law_wishes_here"] (defScope s_law_prog_right) := ⟨rfl, rfl, rfl, by decide +kernel, rfl, by decide +kernel, by decide +kernel⟩
def RRight : Hp → List D → D → Prop := fun _ ds d => ∃ (G : ProgD) (ws : List WantD), ds = [encProg G, .tup (ws.map encWant)] ∧ d = .bl true ∧ PT0 G ∧ (others G).length ≤ 4 ∧ (∀ w ∈ ws, WOk G w) ∧ ws.length ≤ 64 ∧ ∀ n ∈ others G, isNameM n = true
theorem ok_law_prog_right {ko km kr ks kl : Nat} (F : Fun K "_law_prog_right" "_law_prog_right" s_law_prog_right f fd) (T : Gb mg) (hk : ko ≤ k ∧ km ≤ k ∧ kr ≤ k ∧ ks ≤ k ∧ kl ≤ k) (c_others : Cal P w K mg base ko "_law_others" (spN K ROthers)) (c_many : Cal P w K mg base km "many_preloads" (spG (QMany K))) (c_rows : Cal P w K mg base kr "_law_rows" (spP K RLawRows)) (c_shows : Cal P w K mg base ks "shows_preload" (spP K RShows)) (c_least : Cal P w K mg base kl "least_preload" (spP K RLeast)) : FnOk P w K mg base CX0 (k + 1) f fd ["_law_prog", "_law_wishes_here"] (spP K RRight) := by
  refine fn_P F sc_law_prog_right (fun H ds d h => ?_) (fun cdv A outer s H E ds d oo h => ?_)
  · obtain ⟨G, ws, rfl, _⟩ := h
    rfl
  · obtain ⟨G, ws, rfl, rfl, pt, ho, wok, hwl, hnm⟩ := h
    obtain ⟨f1, f2, f3⟩ := right_facts (ws := ws) pt
    have hol8 : (others G).length < 8 := by omega
    refine bs_set 2 oo (ee_callN c_others oo hk.1 (ea_cons (ee_var 0 rfl) ea_nil) (fun _ _ => ⟨G, rfl, rfl, pt.sz⟩)) ?_
    refine bs_set 3 oo (ee_is (d' := .bl (isSoM G ws)) rfl (ee_cmp od_gt (ee_sum oo T.sum (ns := (List.range ((others G).length + 1)).map fun m => ((manyM G ws m : Nat) : Int)) (ee_lc oo (lc_is (by rw [List.filter_eq_self.mpr (fun _ _ => rfl), List.map_map]; rfl) (lc_mk (xs := List.range ((others G).length + 1)) (enc := fun (i : Nat) => D.int (i : Int)) (p := fun _ => true) (f := fun m => D.int ((manyM G ws m : Nat) : Int)) (ρ' := fun (m : Nat) => [some (encProg G), some (.tup (ws.map encWant)), some (.lst ((others G).map D.str)), none, none, none, none, some (.int (m : Int)), none, none, none, none]) [("_law_size", 7)] (blkOk_by rfl) (si_range T.range (ee_op od_addI (ee_len T.len (ee_var 2 rfl) len_mapL) ee_int) (by omega)) (fun _ _ _ _ _ => pg_name (i := 7) oo.nd rfl (Or.inl rfl)) (fun x hx => tg_name) (fun _ _ _ _ _ x hx => ets_nil)
      (fun _ _ _ _ _ x hx hp => (ee_call (many_P c_many) oo.blk hk.2.1 (ea_cons (ee_var 0 rfl) (ea_cons (ee_var 1 rfl) (ea_cons (ee_var 7 rfl) ea_nil))) (fun _ _ => ⟨G, ws, x, rfl, rfl, pt, ho, wok, hwl, by have := List.mem_range.mp hx; omega⟩))) (own1 rfl) (fun x hx => rfl) (by rw [List.length_range]; exact sz8 (by omega)))))) ee_int)) ?_
    refine bs_set 4 oo (ee_is (d' := .lst ((wantNames ws).map D.str)) (by unfold wantNames; rw [List.map_append]) (ee_op (od_addL (xs := (ws.map (·.who)).map D.str) (ys := ((ws.filter fun w => decide (w.ans.head? = some sBound)).map fun w => w.ans.getD 1 sE).map D.str) (by
        have h1 := List.length_filter_le (fun w : WantD => decide (w.ans.head? = some sBound)) ws
        simp only [List.length_map]
        exact Nat.le_trans (by omega : _ ≤ 128) (by decide)))
      (ee_lc oo (lc_is (by rw [List.filter_eq_self.mpr (fun _ _ => rfl), List.map_map]; rfl) (lc_mk (xs := ws) (enc := encWant) (p := fun _ => true) (f := fun w => .str w.who) (ρ' := fun w => [some (encProg G), some (.tup (ws.map encWant)), some (.lst ((others G).map D.str)), some (.bl (isSoM G ws)), none, none, none, none, none, none, some (encWant w), none]) [("_law_mine", 10)] (blkOk_by rfl) (si_tup (ee_var 1 rfl))
        (fun _ _ _ _ _ => pg_name (i := 10) oo.nd rfl (Or.inl rfl)) (fun x hx => tg_name) (fun _ _ _ _ _ x hx => ets_nil) (fun _ _ _ _ _ x hx hp => (ee_ix (ee_var 10 rfl) ee_int rfl)) (own1 rfl) (fun x hx => rfl) (sz64 hwl))))
      (ee_lc oo (lc_is (by rw [List.map_map]; exact List.map_congr_left fun _ _ => rfl) (lc_mk (xs := ws) (enc := encWant) (p := fun w => decide (w.ans.head? = some sBound)) (f := fun w => .str (w.ans.getD 1 sE)) (ρ' := fun w => [some (encProg G), some (.tup (ws.map encWant)), some (.lst ((others G).map D.str)), some (.bl (isSoM G ws)), none, none, none, none, none, none, some (encWant w), none]) [("_law_mine", 10)] (blkOk_by rfl) (si_tup (ee_var 1 rfl))
        (fun _ _ _ _ _ => pg_name (i := 10) oo.nd rfl (Or.inl rfl)) (fun x hx => tg_name)
        (fun _ _ _ _ _ x hx => ets_one (by
          have key : ∀ {Y : Cx} {B : Hp} {ρ : Rho} {b : Expr} {p2 p3 p4 : Pos} {j : Nat} {a : Expr}, EE Y a B ρ (encAns x.ans) → EE Y b B ρ (.str sBound) → behindInMarks .Eq b = false → ET Y (.Compare (.Subscript a (.Constant (.int 0) j p2) p3) [.Eq] [b] p4) B ρ (decide (x.ans.head? = some sBound)) := fun ha hb hm => by
            rcases (wok x hx).ans with ⟨n, v, e⟩ | e | e
            · rw [e] at ha ⊢
              exact et_is (by rfl) (et_cmp (od_eqS (x := sBound) (y := sBound)) (ee_ix ha ee_int rfl) hb hm)
            · rw [e] at ha ⊢
              exact et_is (by decide +kernel) (et_cmp (od_eqS (x := sNobody) (y := sBound)) (ee_ix ha ee_int rfl) hb hm)
            · rw [e] at ha ⊢
              exact et_is (by decide +kernel) (et_cmp (od_eqS (x := sLost) (y := sBound)) (ee_ix ha ee_int rfl) hb hm)
          exact key (ee_ix (da := encWant x) (ee_var 10 rfl) ee_int rfl) ee_str (nobehind _ (by decide) (by decide)))) (fun _ _ _ _ _ x hx hp => ee_ix (da := encAns x.ans) (i := ((1 : Nat) : Int)) (ee_ix (da := encWant x) (ee_var 10 rfl) ee_int rfl) ee_int (by
          have hp' := of_decide_eq_true hp
          rcases (wok x hx).ans with ⟨n, v, e⟩ | e | e
          · rw [e]
            rfl
          · rw [e] at hp'
            exact absurd (Option.some.inj hp') (by decide +kernel)
          · rw [e] at hp'
            exact absurd (Option.some.inj hp') (by decide +kernel))) (own1 rfl) (fun x hx => rfl) (sz64 hwl)))))) ?_
    refine bs_setLc 5 oo (lc_mk (xs := others G) (enc := D.str) (p := fun n => decide (n ∈ wantNames ws)) (f := D.str) (ρ' := fun n => [some (encProg G), some (.tup (ws.map encWant)), some (.lst ((others G).map D.str)), some (.bl (isSoM G ws)), some (.lst ((wantNames ws).map D.str)), none, none, none, none, some (.str n), none, none]) [("_law_title", 9)] (blkOk_by rfl) (si_lst (ee_var 2 rfl)) (fun _ _ _ _ _ => pg_name (i := 9) oo.nd rfl (Or.inl rfl)) (fun x hx => tg_name)
      (fun _ _ _ _ _ x hx => ets_one (et_cmp (od_inS oo.blk (xs := wantNames ws)) (ee_var 9 rfl) (ee_var 4 rfl))) (fun _ _ _ _ _ x hx hp => (ee_var 9 rfl)) (own1 rfl) (fun x hx => rfl) (sz8 (by omega))) ?_
    have hfl : (namesIn G ws).length ≤ 4 := Nat.le_trans namesIn_len ho
    refine bs_set 6 oo (ee_lst ea_nil) ?_
    refine bs_forN (ds := (List.range ((namesIn G ws).length + 1)).map fun (i : Nat) => D.int (i : Int)) (vs := [7]) (ρf := fun i => [some (encProg G), some (.tup (ws.map encWant)), none, some (.bl (isSoM G ws)), none, some (.lst ((namesIn G ws).map D.str)), some (.lst ((goodsM G ws (namesIn G ws) i).map encLine)), none, none, none, none, none]) (ρ' := fun i d => [some (encProg G), some (.tup (ws.map encWant)), none, some (.bl (isSoM G ws)), none, some (.lst ((namesIn G ws).map D.str)), some (.lst ((goodsM G ws (namesIn G ws) i).map encLine)), some d, none, none, none, none]) oo PassesOwn.never (si_range T.range (ee_op od_addI (ee_len T.len (ee_var 5 rfl) len_mapL) ee_int) (by omega)) (.cons (.cons (.skip (.cons (.skip (.cons (.cons (.skip (.skip (.skip (.skip (.skip .nil)))))))))))) (pg_name (i := 7) oo.nd rfl (Or.inl rfl)) (fun i d hd => tg_name) (fun i d hd => ?_) ?_
    · obtain ⟨hi, rfl⟩ : i < (namesIn G ws).length + 1 ∧ D.int (i : Int) = d := by
        have h1 := (List.getElem?_eq_some_iff.mp hd).1
        have h2 : i < (namesIn G ws).length + 1 := by simpa using h1
        rw [List.getElem?_map, List.getElem?_range h2] at hd
        exact ⟨h2, Option.some.inj hd⟩
      have hg := goodsM_len (G := G) (ws := ws) hfl (n := i) (by omega)
      have hr := rowsM_c4 (m := i) hfl (by omega)
      refine bs_set 6 oo (ee_is (d' := .lst ((goodsM G ws (namesIn G ws) (i + 1)).map encLine)) (by rw [goodsM_succ, List.map_append]) (ee_op (od_addL (xs := (goodsM G ws (namesIn G ws) i).map encLine) (ys := ((rowsM (namesIn G ws) i).filter fun l => givesAll G (aloneG G) l ws).map encLine) (by
          have h1 := List.length_filter_le (fun l => givesAll G (aloneG G) l ws) (rowsM (namesIn G ws) i)
          simp only [List.length_map]
          exact Nat.le_trans (by omega : _ ≤ 1536) (by decide))) (ee_var 6 rfl)
        (ee_lc oo (lc_mk (xs := rowsM (namesIn G ws) i) (enc := encLine) (p := fun l => givesAll G (aloneG G) l ws) (f := encLine) (ρ' := fun l => [some (encProg G), some (.tup (ws.map encWant)), none, some (.bl (isSoM G ws)), none, some (.lst ((namesIn G ws).map D.str)), some (.lst ((goodsM G ws (namesIn G ws) i).map encLine)), some (.int (i : Int)), none, none, none, some (encLine l)]) [("_law_bunch", 11)] (blkOk_by rfl) (si_lst (ee_call c_rows oo hk.2.2.1 (ea_cons (ee_var 5 rfl) (ea_cons (ee_var 7 rfl) ea_nil)) (fun _ _ => ⟨namesIn G ws, i, rfl, rfl, hfl, by omega⟩))) (fun _ _ _ _ _ => pg_name (i := 11) oo.nd rfl (Or.inl rfl)) (fun x hx => tg_name)
          (fun _ _ _ _ _ x hx => ets_one (et_val (ee_call c_shows oo.blk hk.2.2.2.1 (ea_cons (ee_var 0 rfl) (ea_cons (ee_var 1 rfl) (ea_cons (ee_var 11 rfl) ea_nil))) (fun _ _ => ⟨G, ws, x, rfl, rfl, pt, wok, hwl, fun z hz => ⟨hnm z (namesIn_sub z (rowsM_sub x hx z hz)), namesIn_sub z (rowsM_sub x hx z hz)⟩, rowsM_nodup x hx, by rw [rowsM_len x hx]; omega⟩)))) (fun _ _ _ _ _ x hx hp => (ee_var 11 rfl)) (own1 rfl) (fun x hx => imms_strs) (Nat.lt_of_le_of_lt hr (by decide)))))) (bs_nil (Le.cons (Le.cons (Le.skip (Le.cons (Le.skip (Le.cons (Le.cons (Le.skip (Le.skip (Le.skip (Le.skip (Le.skip Le.nil)))))))))))))
    · have e : ((List.range ((namesIn G ws).length + 1)).map fun (i : Nat) => D.int (i : Int)).length = (namesIn G ws).length + 1 := by simp
      rw [e]
      show BS _ _ _ [some (encProg G), some (.tup (ws.map encWant)), none, some (.bl (isSoM G ws)), none, some (.lst ((namesIn G ws).map D.str)), some (.lst ((goodL G ws).map encLine)), none, none, none, none, none] _
      refine bs_set 8 oo (ee_call c_least oo hk.2.2.2.2 (ea_cons (ee_var 0 rfl) (ea_cons (ee_var 1 rfl) ea_nil)) (fun _ _ => ⟨G, ws, rfl, rfl, pt, ho, wok, hwl⟩)) ?_
      have e1 : (!eqD (D.lst ((goodL G ws).map encLine)) (.lst [])) = isSoM G ws := by
        rw [← f1]
        cases goodL G ws <;> rfl
      have e2 : (!isNonD (encOptLine (leastM G ws))) = isSoM G ws := by
        rw [← f2]
        cases leastM G ws <;> rfl
      refine bs_ifF (et_is ?_ (et_or (et_cmp od_neB (ee_cmp (od_neD oo (da := .lst ((goodL G ws).map encLine)) (db := .lst []) rfl deep_lines cmp_nil fine_lines rfl) (ee_var 6 rfl) (ee_lst ea_nil)) (ee_var 3 rfl)) fun h1 => (et_cmp od_neB (ee_cmp od_notN (ee_var 8 rfl) ee_non) (ee_var 3 rfl)))) ?_
      · rw [e1, e2]
        simp
      · cases hle : leastM G ws with
        | none => exact bs_retIs (ee_or (x := true) (d := .bl true) (ee_is (by rfl) (ee_cmp od_isN (ee_var 8 rfl) ee_non)) fun h => by cases h) rfl
        | some l =>
          obtain ⟨g, r, hg, hlen⟩ := f3 l hle
          refine bs_retIs (ee_or (x := false) (d := .bl true) (ee_is (by rfl) (ee_cmp od_isN (ee_var 8 rfl) ee_non)) fun h => ee_is (by rw [decide_eq_true (Int.ofNat_le.mpr hlen)]) (ee_cmp od_le (ee_len T.len (n := l.length) (ee_var 8 rfl) (by simp [D.len, encOptLine, encLine])) (ee_len T.len (n := g.length) (ee_ix (i := 0) (d := encLine g) (ee_var 6 rfl) ee_int (by rw [hg]; exact at0)) (by simp [D.len, encLine])))) rfl
end
end K74

set_option Elab.async false
set_option linter.all false
set_option maxRecDepth 100000
set_option maxHeartbeats 4000000
/-! K74.KH5: more rules; data picked out of a list; what a drawn program keeps. -/
namespace K74
open PySem PySem.Spec PyProof.Rows L2

section
variable {X : Cx} {σ : L2.St} {H : Hp} {pos p p' p1 p2 p3 : Pos} {k : Nat} {a b c e ob ix : Expr} {es : List Expr} {Q : VK} {v : V}
theorem wt_and {Q : Bool → Hp → Prop} (h : WT X a σ H fun z H1 => if z = true then WT X b σ H1 Q else Q false H1) : WT X (.BoolOp .And [a, b] pos) σ H Q := wt_of (PW.pt (pw_and pt_w (pw_and1 pt_w))) h
theorem wt_and3 {Q : Bool → Hp → Prop} (h : WT X a σ H fun z H1 => if z = true then WT X b σ H1 (fun z2 H2 => if z2 = true then WT X c σ H2 Q else Q false H2) else Q false H1) : WT X (.BoolOp .And [a, b, c] pos) σ H Q := wt_of (PW.pt (pw_and pt_w (pw_and pt_w (pw_and1 pt_w)))) h
theorem we_tup {x1 : Nat} (h : WA X es σ H fun xs H1 => xs.length ≤ sizeLine ∧ ∀ p, H1 p = none → Q (.ref p) (upd H1 p (.tup xs))) : WE X (.Tuple es x1 pos) σ H Q := we_of (pe_tup pa_w) h
theorem we_ifx (h : WT X c σ H fun z H1 => if z = true then WE X a σ H1 Q else WE X b σ H1 Q) : WE X (.IfExp c a b pos) σ H Q := we_of (pe_ifExp pt_w pe_w pe_w) h
theorem we_int {n : Int} {j : Nat} (h : Q (.int n) H) : WE X (.Constant (.int n) j pos) σ H Q := we_of pe_int h
/-- e == n, an int -/
theorem we_eqI {n : Int} {j : Nat} (h : WE X a σ H fun v H1 => ∃ i : Int, v = .int i ∧ Q (.bl (decide (i = n))) H1) (hm : behindInMarks .Eq (.Constant (.int n) j p') = false := by first | exact nobehind _ (by decide) (by decide) | rfl) : WE X (.Compare a [.Eq] [.Constant (.int n) j p'] pos) σ H Q :=
  we_of (pe_cmpR op_eq pe_w pe_w hm) (h.mono fun v H1 ⟨i, e, q⟩ => we_int (by
    subst e
    refine ⟨rfl, ?_⟩
    rw [dec_int, Bool.beq_eq_decide_eq]
    exact q))
theorem wt_eqI {n : Int} {j : Nat} {Q : Bool → Hp → Prop} (h : WE X a σ H fun v H1 => ∃ i : Int, v = .int i ∧ Q (decide (i = n)) H1) (hm : behindInMarks .Eq (.Constant (.int n) j p') = false := by first | exact nobehind _ (by decide) (by decide) | rfl) : WT X (.Compare a [.Eq] [.Constant (.int n) j p'] pos) σ H Q :=
  wt_of (pt_cmpR op_eq pe_w pe_w hm) (h.mono fun v H1 ⟨i, e, q⟩ => we_int (by
    subst e
    refine ⟨rfl, _, rfl, ?_⟩
    rw [dec_int, Bool.beq_eq_decide_eq]
    exact q))
/-- t + u, tuples, u not empty -/
theorem we_catT (h : WE X a σ H fun x H1 => WE X b σ H1 fun y H2 => ∃ (p q : Addr) (xs ys : List V), x = .ref p ∧ y = .ref q ∧ SqT X.K H2 p xs ∧ SqT X.K H2 q ys ∧ xs ≠ [] ∧ ys ≠ [] ∧ xs.length + ys.length ≤ sizeLine ∧ ∀ r, H2 r = none → Q (.ref r) (upd H2 r (.tup (xs ++ ys)))) : WE X (.BinOp a .Add b pos) σ H Q :=
  we_of (pe_op op_catA pe_w pe_w) (h.mono fun x H1 h1 => h1.mono fun y H2 ⟨p, q, xs, ys, e1, e2, hp, hq, n1, n2, hl, z⟩ => ⟨p, q, xs, ys, e1, e2, hp, hq, hl, fun e => absurd e n1, fun _ e => absurd e n2, fun _ _ r hr => z r hr⟩)
theorem wt_vE {Q : Bool → Hp → Prop} (h : WE X a σ H fun v H1 => ∃ z, v = .bl z ∧ Q z H1) (he : ∀ whole, PySem.isTrue a X.env whole = (do let v ← whole; standAt a.pos; holding [v] (truthy v)) := by intro _; rfl) : WT X a σ H Q := wt_of (pt_val pe_w he) h
end
theorem DatAll.rep {K : PySem.W.Frag} {H : Hp} {vs : List V} {ds : List D} (t : DatAll K H vs ds) : ∀ n, DatAll K H (List.replicate n vs).flatten (List.replicate n ds).flatten
  | 0 => .nil
  | n + 1 => by
    rw [List.replicate_succ, List.replicate_succ, List.flatten_cons, List.flatten_cons]
    exact t.append (DatAll.rep t n)
/-- a list times a small number -/
theorem od_rep {X : Cx} {B : Hp} {xs : List D} {n : Nat} (hn : xs.length * n ≤ sizeLine) (hn2 : n ≤ 1000000) : OpD X (binaryOp .Mult) B (.lst xs) (.int (n : Int)) (.lst (List.replicate n xs).flatten) :=
  ⟨_, op_rep, fun x y H Q _ dx dy q => by
    cases dx with
    | lst h t =>
      cases dy
      rename_i l vs
      have e : ((n : Int)).toNat = n := by simp
      refine ⟨l, (n : Int), vs, rfl, rfl, h, by omega, by omega, by rw [t.length, e]; exact hn, fun p hp => q _ _ (Same.new hp) (.lst upd_same ?_)⟩
      rw [e]
      exact (t.mono (Same.new hp)).rep n⟩

/-! ### picked out of a list -/
theorem DatAll.pick {K : PySem.W.Frag} {H : Hp} {α : Type} {g : α → D} {ws ys : List V} {xs : List α} (h : DatAll K H ws (xs.map g)) (hy : ∀ y ∈ ys, y ∈ ws) : ∃ zs : List α, DatAll K H ys (zs.map g) ∧ (∀ z ∈ zs, z ∈ xs) ∧ zs.length = ys.length := by
  induction ys with
  | nil => exact ⟨[], .nil, fun z hz => (by cases hz), rfl⟩
  | cons y r ih =>
    obtain ⟨zs, h1, h2, h3⟩ := ih fun z hz => hy z (List.mem_cons_of_mem _ hz)
    obtain ⟨i, hi⟩ := List.mem_iff_getElem?.mp (hy y List.mem_cons_self)
    obtain ⟨d, hd, dv⟩ := h.getV hi
    rw [List.getElem?_map] at hd
    cases hx : xs[i]? with
    | none => rw [hx] at hd; cases hd
    | some x =>
      rw [hx] at hd
      have e : g x = d := Option.some.inj hd
      subst e
      refine ⟨x :: zs, .cons dv h1, fun z hz => ?_, by rw [List.length_cons, List.length_cons, h3]⟩
      rcases List.mem_cons.mp hz with rfl | hz
      · exact List.mem_of_getElem? hx
      · exact h2 z hz
theorem DatAll.mem {K : PySem.W.Frag} {H : Hp} {α : Type} {g : α → D} {ws : List V} {y : V} {xs : List α} (h : DatAll K H ws (xs.map g)) (hy : y ∈ ws) : ∃ x ∈ xs, Dat K H y (g x) := by
  obtain ⟨i, hi⟩ := List.mem_iff_getElem?.mp hy
  obtain ⟨d, hd, dv⟩ := h.getV hi
  rw [List.getElem?_map] at hd
  cases hx : xs[i]? with
  | none => rw [hx] at hd; cases hd
  | some x =>
    rw [hx] at hd
    have e : g x = d := Option.some.inj hd
    subst e
    exact ⟨x, List.mem_of_getElem? hx, dv⟩
/-- texts, tuples are no ints -/
theorem noInt_strs {xs : List S} : ∀ x ∈ xs.map V.str, ∀ i, x ≠ V.int i := fun x hx i e => by
  obtain ⟨z, _, rfl⟩ := List.mem_map.mp hx
  cases e
theorem noInt_of {K : PySem.W.Frag} {H : Hp} {α : Type} {g : α → List D} {ws : List V} {xs : List α} (h : DatAll K H ws (xs.map fun x => D.tup (g x))) : ∀ x ∈ ws, ∀ i, x ≠ V.int i := fun x hx i e => by
  obtain ⟨z, _, dz⟩ := h.mem hx
  rw [e] at dz
  cases dz
theorem imms_pairs {ps : List (S × S)} : imms (ps.map encPair) = true := imms_map fun _ _ => rfl
theorem imms_uses {ps : List UseD} : imms (ps.map encUse) = true := imms_map fun _ _ => rfl
theorem imms_libs {ls : List LibD} : imms (ls.map encLib) = true := imms_map fun _ _ => imm_lib

/-! ### what a drawn program is -/
def poolAll : List S := ["a", "b", "core", "d", "ext", "fmt", "zlib"]
structure GoodG (G : ProgD) : Prop where
  names : ∃ k, 2 ≤ k ∧ k ≤ 3 ∧ names G = sMain :: poolAll.take k
  needs : ∀ l ∈ G.libs, (∀ n ∈ l.needs, n ∈ K74.names G) ∧ l.needs.length ≤ 2 ∧ l.defs.length ≤ 3 ∧ l.uses.length ≤ 2
  uses : ∃ l r, G.libs = l :: r ∧ l.uses ≠ []
  doors : (∀ d ∈ G.doors, d.1 ∈ K74.names G) ∧ G.doors.length ≤ 2
  pre : G.pre.length ≤ 1
theorem GoodG.len {G : ProgD} (h : GoodG G) : G.libs.length ≤ 4 := by
  obtain ⟨k, h1, h2, h3⟩ := h.names
  have h4 := congrArg List.length h3
  rw [K74.names, List.length_map, List.length_cons, List.length_take] at h4
  omega
theorem pool_nodup {k : Nat} (h1 : 2 ≤ k) (h2 : k ≤ 3) : (sMain :: poolAll.take k).Nodup := by
  have : k = 2 ∨ k = 3 := by omega
  rcases this with rfl | rfl
  · decide +kernel
  · decide +kernel
theorem pool_names {k : Nat} (h1 : 2 ≤ k) (h2 : k ≤ 3) : ∀ n ∈ sMain :: poolAll.take k, isNameM n = true := by
  have : k = 2 ∨ k = 3 := by omega
  rcases this with rfl | rfl
  · decide +kernel
  · decide +kernel
theorem GoodG.wf {G : ProgD} (h : GoodG G) : WF G where
  nd := by
    obtain ⟨k, h1, h2, h3⟩ := h.names
    rw [h3]
    exact pool_nodup h1 h2
  ne := fun e => by
    obtain ⟨l, r, h1, _⟩ := h.uses
    rw [e] at h1
    cases h1
  needs := fun l hl => (h.needs l hl).1
  doors := h.doors.1
theorem GoodG.sz {G : ProgD} (h : GoodG G) : SZ G where
  libs := by have := h.len; omega
  needs := fun l hl => by have := (h.needs l hl).2.1; omega
  defs := fun l hl => by have := (h.needs l hl).2.2.1; omega
  uses := fun l hl => by have := (h.needs l hl).2.2.2; omega
  doors := by have := h.doors.2; omega
  pre := by have := h.pre; omega
theorem GoodG.pt {G : ProgD} (h : GoodG G) : PT0 G where
  wf := h.wf
  sz := h.sz
  wk := { wf := ⟨h.wf.nd, h.wf.ne, h.wf.needs, h.wf.doors⟩, sz := ⟨h.sz.libs, h.sz.needs, h.sz.defs, h.sz.uses, h.sz.doors, Nat.zero_le _⟩, libs := h.len, doors := h.doors.2, pre := rfl }
theorem GoodG.others {G : ProgD} (h : GoodG G) : (others G).length ≤ 4 := by
  rw [others_len]
  have := h.len
  omega
theorem GoodG.isName {G : ProgD} (h : GoodG G) : ∀ n ∈ K74.others G, isNameM n = true := fun n hn => by
  obtain ⟨k, h1, h2, h3⟩ := h.names
  have := others_sub hn
  rw [h3] at this
  exact pool_names h1 h2 n this
end K74

set_option Elab.async false
set_option linter.all false
set_option maxRecDepth 100000
set_option maxHeartbeats 4000000
/-! K74.KH6: lists beside the box; picked, of, sorted, said of data. -/
namespace K74
open PySem PySem.Spec PyProof.Rows L2

/-- a list of data at p, which is not the box -/
structure LAt {α : Type} (K : PySem.W.Frag) (H : Hp) (b p : Addr) (g : α → D) (xs : List α) : Prop where
  ne : p ≠ b
  ex : ∃ ws, H p = some (.lst ws) ∧ DatAll K H ws (xs.map g)
def D.isInt : D → Bool
  | .int _ => true
  | .raw _ => true
  | _ => false
section
variable {α : Type} {K : PySem.W.Frag} {H H' : Hp} {b p q L : Addr} {g : α → D} {xs : List α} {m m' : Nat} {v : V}
theorem LAt.dat (l : LAt K H b p g xs) : Dat K H (.ref p) (.lst (xs.map g)) := by
  obtain ⟨ws, h1, h2⟩ := l.ex
  exact .lst h1 h2
theorem LAt.grow (l : LAt K H b p g xs) (s : Same H H') : LAt K H' b p g xs := by
  obtain ⟨ws, h1, h2⟩ := l.ex
  exact ⟨l.ne, ws, s _ _ h1, h2.mono s⟩
theorem LAt.step (l : LAt K H b p g xs) (hb : BAt H b m') (st : BStep H b m H') (hi : ∀ x ∈ xs, (g x).imm = true) : LAt K H' b p g xs := by
  obtain ⟨ws, h1, h2⟩ := l.ex
  exact ⟨l.ne, ws, st.at l.ne h1, st.dats hb h2 (imms_map hi)⟩
theorem LAt.put {ys : List V} {o : HO} (l : LAt K H b p g xs) (hL : H L = some (.lst ys)) (hne : p ≠ L) (hi : ∀ x ∈ xs, (g x).imm = true) : LAt K (upd H L o) b p g xs := by
  obtain ⟨ws, h1, h2⟩ := l.ex
  exact ⟨l.ne, ws, by rw [upd_ne hne]; exact h1, h2.keepT (upd_keepT hL) (imms_map hi)⟩
theorem LAt.new {ws : List V} (hb : BAt H b m) (hp : H p = none) (h1 : H' p = some (.lst ws)) (h2 : DatAll K H' ws (xs.map g)) : LAt K H' b p g xs := ⟨hb.ne hp, ws, h1, h2⟩
theorem LAt.of (hb : BAt H b m) (d : Dat K H v (.lst (xs.map g))) (hn : ∀ x ∈ xs, (g x).isInt = false) : ∃ p, v = .ref p ∧ LAt K H b p g xs := by
  cases d with
  | @lst p ws _ h1 h2 =>
    refine ⟨_, rfl, hb.other h1 fun x hx i e => ?_, ws, h1, h2⟩
    subst e
    obtain ⟨z, hz, dz⟩ := h2.mem hx
    have := hn z hz
    generalize g z = d at dz this
    cases dz <;> cases this
/-- picked -/
theorem pickT (l : LAt K H b p g xs) (hb : BAt H b m) (hm : m + 20 ≤ 1000000) (hx : xs.length ≤ 100) {most : Nat} (hmo : most ≤ 10) (hi : ∀ x ∈ xs, (g x).imm = true) {Q : VK}
    (q : ∀ (r : Addr) (zs : List α) (H' : Hp), H r = none → BStep H b (m + 20) H' → LAt K H' b r g zs → (∀ z ∈ zs, z ∈ xs) → zs.length ≤ most → Q (.ref r) H') : QPick [.ref b, .ref p, .int (most : Int)] H Q := by
  obtain ⟨ws, h1, h2⟩ := l.ex
  refine ⟨b, m, p, ws, most, rfl, hb, hm, l.ne, h1, by rw [h2.length, List.length_map]; exact hx, hmo, fun r ys H' hr st hys hsub hlen => ?_⟩
  obtain ⟨zs, d, hz, hzl⟩ := (st.dats hb h2 (imms_map hi)).pick hsub
  exact q r zs H' hr st (LAt.new hb hr hys d) hz (by omega)
/-- one of a list -/
theorem ofT (l : LAt K H b p g xs) (hb : BAt H b m) (hm : m ≤ 1000000) (hx : xs.length ≤ 1000) (hne : xs ≠ []) (hi : ∀ x ∈ xs, (g x).imm = true) {Q : VK}
    (q : ∀ x ∈ xs, ∀ (v : V) (H' : Hp), BStep H b (m + 1) H' → Dat K H' v (g x) → Q v H') : QOf [.ref b, .ref p] H Q := by
  obtain ⟨ws, h1, h2⟩ := l.ex
  have hl := h2.length
  rw [List.length_map] at hl
  refine ⟨b, m, p, ws, rfl, hb, hm, l.ne, h1, fun e => ?_, by omega, fun x H' hxm st => ?_⟩
  · rw [e] at hl
    exact hne (List.eq_nil_of_length_eq_zero hl.symm)
  · obtain ⟨z, hz, dz⟩ := h2.mem hxm
    exact q z hz x H' st (st.dat hb dz (hi z hz))
theorem sortT {ps : List (S × S)} (l : LAt K H b p encPair ps) (hb : BAt H b m) {Q : VK} (q : ∀ (r : Addr) (zs : List (S × S)) (H' : Hp), H r = none → Same H H' → LAt K H' b r encPair zs → (∀ z ∈ zs, z ∈ ps) → zs.length = ps.length → Q (.ref r) H') : rSortPS K [.ref p] H Q := by
  obtain ⟨ws, h1, h2⟩ := l.ex
  refine ⟨p, ws, ps, rfl, h1, h2, fun ys r hperm hr => ?_⟩
  obtain ⟨zs, d, hz, hzl⟩ := h2.pick fun y hy => hperm.mem_iff.mp hy
  have e := hperm.length_eq
  have e2 := h2.length
  rw [List.length_map] at e2
  exact q r zs _ hr (Same.new hr) (LAt.new hb hr upd_same (d.mono (Same.new hr))) hz (by omega)
end
/-! ### displays of many constants -/
def notStar : Expr → Bool
  | .Starred _ _ => false
  | _ => true
theorem se_cons {e : Expr} {es : List Expr} {env : Env} (h : notStar e = true) : starEach (e :: es) env = (false, eval e env) :: starEach es env := by
  cases e <;> first | rfl | cases h
theorem eac {X : Cx} {B : Hp} {ρ : Rho} {e : Expr} {es : List Expr} {d : D} {ds : List D} (he : EE X e B ρ d) (hr : EA X es B ρ ds) (h : notStar e = true := by rfl) : EA X (e :: es) B ρ (d :: ds) := ea_cons he hr (se_cons h)
theorem ee_pairs6 {X : Cx} {B : Hp} {ρ : Rho} {pos : Pos} {a0 b0 : S} {i0 j0 k0 : Nat} {q0 r0 t0 : Pos} {a1 b1 : S} {i1 j1 k1 : Nat} {q1 r1 t1 : Pos} {a2 b2 : S} {i2 j2 k2 : Nat} {q2 r2 t2 : Pos} {a3 b3 : S} {i3 j3 k3 : Nat} {q3 r3 t3 : Pos} {a4 b4 : S} {i4 j4 k4 : Nat} {q4 r4 t4 : Pos} {a5 b5 : S} {i5 j5 k5 : Nat} {q5 r5 t5 : Pos} : EE X (.List [.Tuple [.Constant (.str a0) i0 q0, .Constant (.str b0) j0 r0] k0 t0, .Tuple [.Constant (.str a1) i1 q1, .Constant (.str b1) j1 r1] k1 t1, .Tuple [.Constant (.str a2) i2 q2, .Constant (.str b2) j2 r2] k2 t2, .Tuple [.Constant (.str a3) i3 q3, .Constant (.str b3) j3 r3] k3 t3, .Tuple [.Constant (.str a4) i4 q4, .Constant (.str b4) j4 r4] k4 t4, .Tuple [.Constant (.str a5) i5 q5, .Constant (.str b5) j5 r5] k5 t5] pos) B ρ (.lst [.tup [.str a0, .str b0], .tup [.str a1, .str b1], .tup [.str a2, .str b2], .tup [.str a3, .str b3], .tup [.str a4, .str b4], .tup [.str a5, .str b5]]) := ee_lst (eac (ee_tup (eac ee_str (eac ee_str ea_nil))) (eac (ee_tup (eac ee_str (eac ee_str ea_nil))) (eac (ee_tup (eac ee_str (eac ee_str ea_nil))) (eac (ee_tup (eac ee_str (eac ee_str ea_nil))) (eac (ee_tup (eac ee_str (eac ee_str ea_nil))) (eac (ee_tup (eac ee_str (eac ee_str ea_nil))) ea_nil))))))
def pairsAll : List (S × S) := [("f", ""), ("f", "one"), ("f", "two"), ("g", ""), ("g", "one"), ("g", "two")]
/-- what the loop over the names has made -/
structure LibsOk (nm : List S) (i : Nat) (gs : List LibD) : Prop where
  names : gs.map (·.name) = nm.take i
  each : ∀ l ∈ gs, (∀ n ∈ l.needs, n ∈ nm) ∧ l.needs.length ≤ 2 ∧ l.defs.length ≤ 3 ∧ l.uses.length ≤ 2
  uses : ∀ l ∈ gs.head?, l.uses ≠ []
end K74

set_option Elab.async false
set_option linter.all false
set_option maxRecDepth 100000
set_option maxHeartbeats 4000000
/-! K74.KH7: _law_program. -/
namespace K74
open PySem PySem.Spec PyProof.Rows L2
theorem pairsAll_eq : [D.tup [.str "f", .str ""], .tup [.str "f", .str "one"], .tup [.str "f", .str "two"], .tup [.str "g", .str ""], .tup [.str "g", .str "one"], .tup [.str "g", .str "two"]] = pairsAll.map encPair := rfl
section
variable {P : Program} {w : World} {K : PySem.W.Frag} {mg : Str → Option Value} {base : Heap} {f : Addr} {fd : FuncData} {k : Nat}
abbrev s_law_program : Stmt := top 64
theorem sc_law_program : FnScope ["_law_box_here", "_law_most", "_law_doors_so", "_law_pool", "_law_libs", "_law_who", "_law_modes", "_law_gates", "_law_needs", "_law_pairs", "_law_defs_so", "_law_uses_so", "_law_triples", "_law_again", "_law_own", "_law_pair"] ["_law_box_here", "_law_most", "_law_doors_so"] (defScope s_law_program) := ⟨rfl, rfl, rfl, by decide +kernel, rfl, by decide +kernel, by decide +kernel⟩
def QProg (K : PySem.W.Frag) : List V → Hp → VK → Prop := fun vs H Q => ∃ (b : Addr) (m n : Nat), vs = [.ref b, .int (n : Int), .int 2] ∧ BAt H b m ∧ m + 1000 ≤ 1000000 ∧ 2 ≤ n ∧ n ≤ 3 ∧ ∀ (G : ProgD) (v : V) (H' : Hp), BStep H b (m + 1000) H' → Dat K H' v (encProg G) → GoodG G → Q v H'
theorem ok_law_program {kt kof kp : Nat} (F : Fun K "_law_program" "_law_program" s_law_program f fd) (T : Gb mg) (hk : kt ≤ k ∧ kof ≤ k ∧ kp ≤ k) (c_take : Cal P w K mg base kt "_law_take" (spG QTake)) (c_of : Cal P w K mg base kof "_law_of" (spG QOf)) (c_picked : Cal P w K mg base kp "_law_picked" (spG QPick)) : FnOk P w K mg base CX0 (k + 1) f fd ["_law_box_here", "_law_most", "_law_doors_so"] (spG (QProg K)) := by
  refine fn_W F sc_law_program (fun vs H Q h => ?_) (fun cdv A outer s H E vs Q oo h => ?_)
  · obtain ⟨b, m, n, rfl, _⟩ := h
    rfl
  · obtain ⟨b, m, n, rfl, hb, hm, hn2, hn3, hQ⟩ := h
    have hpl : (poolAll.take n).length ≤ 3 := Nat.le_trans (List.length_take_le _ _) hn3
    refine ws_set 3 oo (we_ee (ee_is (d' := .lst ((poolAll.take n).map D.str)) (by rw [List.map_take]; rfl) (ee_toL (n := n) (xs := [.str "a", .str "b", .str "core", .str "d", .str "ext", .str "fmt", .str "zlib"]) (ee_lst (ea_cons ee_str (ea_cons ee_str (ea_cons ee_str (ea_cons ee_str (ea_cons ee_str (ea_cons ee_str (ea_cons ee_str ea_nil)))))))) (ee_var 1 rfl) (pe_slice sl_list (ee_lst (ea_cons ee_str (ea_cons ee_str (ea_cons ee_str (ea_cons ee_str (ea_cons ee_str (ea_cons ee_str (ea_cons ee_str ea_nil)))))))) po_none (po_some (ee_var 1 rfl))))) (ρ := [none, some (.int (n : Int))]) (.skip (.cons (.int _) .nil)) fun v1 H1 s1 dv1 => ?_)
    obtain ⟨pl, rfl, lp1⟩ := LAt.of (hb.grow s1) dv1 fun _ _ => rfl
    -- libs = []
    refine ws_set 4 oo (we_of (pe_lst pa_nil) ⟨Nat.zero_le _, fun L hL => ?_⟩)
    have s2 : Same H1 (upd H1 L (.lst [])) := Same.new hL
    have hL2 : upd H1 L (.lst []) L = some (.lst []) := upd_same
    have hL0 : H L = none := s1.free hL
    have hLb : L ≠ b := hb.ne hL0
    have hpL : pl ≠ L := by
      obtain ⟨ws, h1, _⟩ := lp1.ex
      exact ne_of_none h1 hL
    generalize upd H1 L (.lst []) = H2 at s2 hL2 ⊢
    have lp2 := lp1.grow s2
    -- for who in ["main"] + pool
    let nm : List S := sMain :: poolAll.take n
    have hnml : nm.length ≤ 4 := by
      show (poolAll.take n).length + 1 ≤ 4
      omega
    refine ws_forL oo PassesOwn.never (we_ee (ee_is (d' := .lst (nm.map D.str)) rfl (ee_op (od_addL (xs := [.str sMain]) (ys := (poolAll.take n).map D.str) (by
      rw [List.length_map]
      exact Nat.le_trans (by simp only [List.length_cons, List.length_nil]; omega : _ ≤ 4) (by decide))) (ee_lst (ea_cons ee_str ea_nil)) (ee_var 3 rfl))) (ρ := [none, none, none, some (.lst ((poolAll.take n).map D.str))]) (.skip (.skip (.skip (.cons lp2.dat .nil)))) fun v3 H3 s3 dv3 => ?_)
    have hb3 : BAt H3 b m := ((hb.grow s1).grow s2).grow s3
    obtain ⟨il, rfl, li3⟩ := LAt.of hb3 dv3 fun _ _ => rfl
    have hL3 := s3 _ _ hL2
    have hiL : il ≠ L := by
      obtain ⟨ws, h1, h2⟩ := li3.ex
      intro e
      rw [e, hL3] at h1
      injection h1 with h1
      injection h1 with h1
      subst h1
      cases h2
    let Pv : Nat → L2.St → Hp → Prop := fun i σ H' => ∃ (x5 x8 x9 x10 x11 x12 : Option V) (gs : List LibD) (wsL : List V), σ = [some (.ref b), some (.int (n : Int)), some (.int 2), some (.ref pl), some (.ref L), x5, none, none, x8, x9, x10, x11, x12, none, none, none] ∧
      BStep H b (m + 100 * i) H' ∧ LAt K H' b pl D.str (poolAll.take n) ∧ LAt K H' b il D.str nm ∧ H' L = some (.lst wsL) ∧ DatAll K H' wsL (gs.map encLib) ∧ LibsOk nm i gs
    refine ⟨il, nm.map V.str, Pv, rfl, ?_, ?_, ?_, ?_⟩
    · exact ⟨none, none, none, none, none, none, [], [], rfl, BStep.grow hb ((s1.trans s2).trans s3), lp2.grow s3, li3, hL3, .nil, rfl, (fun l hl => by cases hl), (fun l hl => by cases hl)⟩
    · rintro i σ H' hi ⟨x5, x8, x9, x10, x11, x12, gs, wsL, rfl, st, lp, li, hL', dL, ok⟩
      obtain ⟨ws, h1, h2⟩ := li.ex
      rw [h2.strs] at h1
      exact SqL.of h1
    · rintro i x σ H4 hx ⟨x5, x8, x9, x10, x11, x12, gs, wsL, rfl, st4, lp4, li4, hL4, dL4, ok⟩
      obtain ⟨who, hwho, rfl⟩ : ∃ who, nm[i]? = some who ∧ V.str who = x := by
        rw [List.getElem?_map] at hx
        cases q : nm[i]? with
        | none => rw [q] at hx; cases hx
        | some z => rw [q] at hx; exact ⟨z, rfl, Option.some.inj hx⟩
      have hi4 : i < 4 := Nat.lt_of_lt_of_le (List.getElem?_eq_some_iff.mp hwho).1 hnml
      refine wg_name 5 oo ?_
      -- needs
      refine ws_set 8 oo (we_cal c_picked oo hk.2.2 (wa_cons (we_var 0 rfl (wa_cons (we_en (en_lc oo (lc_mk (xs := poolAll.take n) (enc := D.str) (p := fun z => decide (z ≠ who)) (f := D.str) (ρ := [none, none, none, some (.lst ((poolAll.take n).map D.str)), none, some (.str who), none, none, none, none, none, none, none, none, none, none]) (ρ' := fun z => [none, none, none, some (.lst ((poolAll.take n).map D.str)), none, some (.str who), none, none, none, none, none, none, none, none, some (.str z), none]) [("_law_own", 14)] (blkOk_by rfl) (si_lst (ee_var 3 rfl)) (fun _ _ _ _ _ => pg_name (i := 14) oo.nd rfl (Or.inl rfl)) (fun x hx => tg_name) (fun _ _ _ _ _ x hx => ets_one (et_cmp od_neS (ee_var 14 rfl) (ee_var 5 rfl))) (fun _ _ _ _ _ x hx hp => (ee_var 14 rfl)) (own1 rfl) (fun x hx => rfl) (sz8 (by omega))))
        (.skip (.skip (.skip (.cons lp4.dat (.skip (.cons (.str _) (.skip (.skip (.skip (.skip (.skip (.skip (.skip (.skip (.skip (.skip .nil)))))))))))))))) fun q ws5 H5 hq s5 h5 d5 => wa_cons (we_ee (ee_if (et_cmp od_neS (ee_var 5 rfl) ee_str) (d1 := .int ((2 : Nat) : Int)) (d2 := .int ((1 : Nat) : Int)) (fun _ => ee_int) (fun _ => ee_int)) (ρ := [none, none, none, none, none, some (.str who)]) (.skip (.skip (.skip (.skip (.skip (.cons (.str _) .nil)))))) fun v6 H6 s6 dv6 => ?_))))))
      have st6 : BStep H b (m + 100 * i) H6 := (st4.more s5).more s6
      have lq6 : LAt K H6 b q D.str ((poolAll.take n).filter fun z => decide (z ≠ who)) := (LAt.new st4.at_ hq h5 d5).grow s6
      obtain ⟨t6, ht6, rfl⟩ : ∃ t : Nat, t ≤ 2 ∧ v6 = .int (t : Int) := by
        split at dv6 <;> cases dv6
        · exact ⟨2, by omega, rfl⟩
        · exact ⟨1, by omega, rfl⟩
      refine wa_nil (pickT lq6 st6.at_ (by omega) (Nat.le_trans (List.length_filter_le ..) (by omega)) (by omega) (fun _ _ => rfl) fun pn needs H7 hpn st67 ln7 hns hnl => ?_)
      have st7 := st6.trans st67
      have lp7 := ((lp4.grow s5).grow s6).step st6.at_ st67 fun _ _ => rfl
      have li7 := ((li4.grow s5).grow s6).step st6.at_ st67 fun _ _ => rfl
      have hL7 := st67.at hLb (s6 _ _ (s5 _ _ hL4))
      have dL7 := st67.dats st6.at_ ((dL4.mono s5).mono s6) imms_libs
      -- pairs
      refine ws_set 9 oo (we_ee ee_pairs6 (ρ := []) .nil fun v8 H8 s8 dv8 => ?_)
      rw [show D.lst [_, _, _, _, _, _] = D.lst (pairsAll.map encPair) from congrArg D.lst pairsAll_eq] at dv8
      obtain ⟨pr, rfl, lr8⟩ := LAt.of (st7.at_.grow s8) dv8 fun _ _ => rfl
      -- definitions
      refine ws_set 10 oo (we_sortedPS oo T.sorted (we_cal c_picked oo hk.2.2 (wa_cons (we_var 0 rfl (wa_cons (we_var 9 rfl (wa_cons (we_ee (ee_if (et_cmp od_neS (ee_var 5 rfl) ee_str) (d1 := .int ((3 : Nat) : Int)) (d2 := .int ((1 : Nat) : Int)) (fun _ => ee_int) (fun _ => ee_int)) (ρ := [none, none, none, none, none, some (.str who)]) (.skip (.skip (.skip (.skip (.skip (.cons (.str _) .nil)))))) fun v9 H9 s9 dv9 => ?_))))))))
      have st9 : BStep H b (m + 100 * i + 20) H9 := (st7.more s8).more s9
      obtain ⟨t9, ht9, rfl⟩ : ∃ t : Nat, t ≤ 3 ∧ v9 = .int (t : Int) := by
        split at dv9 <;> cases dv9
        · exact ⟨3, by omega, rfl⟩
        · exact ⟨1, by omega, rfl⟩
      refine wa_nil (pickT (lr8.grow s9) st9.at_ (by omega) (by decide) (by omega) (fun _ _ => rfl) fun pd ds H10 hpd st910 ld10 hds hdl => sortT ld10 st910.at_ fun pd2 ds2 H11 hpd2 s11 ld11 hds2 hdl2 => ?_)
      have st11 : BStep H b (m + 100 * i + 40) H11 := (st9.trans st910).more s11
      have ln11 := (((ln7.grow s8).grow s9).step st9.at_ st910 fun _ _ => rfl).grow s11
      have lp11 := (((lp7.grow s8).grow s9).step st9.at_ st910 fun _ _ => rfl).grow s11
      have li11 := (((li7.grow s8).grow s9).step st9.at_ st910 fun _ _ => rfl).grow s11
      have lr11 := ((lr8.grow s9).step st9.at_ st910 fun _ _ => rfl).grow s11
      have hL11 := s11 _ _ (st910.at hLb (s9 _ _ (s8 _ _ hL7)))
      have dL11 := (st910.dats st9.at_ ((dL7.mono s8).mono s9) imms_libs).mono s11
      -- uses
      refine ws_set 11 oo (we_sortedPS oo T.sorted (we_cal c_picked oo hk.2.2 (wa_cons (we_var 0 rfl (wa_cons (we_var 9 rfl (wa_cons (we_int (wa_nil (pickT (most := 2) lr11 st11.at_ (by omega) (by decide) (by omega) (fun _ _ => rfl) fun pu us H12 hpu st1112 lu12 hus hul => sortT lu12 st1112.at_ fun pu2 us2 H13 hpu2 s13 lu13 hus2 hul2 => ?_))))))))))
      have st13 : BStep H b (m + 100 * i + 60) H13 := (st11.trans st1112).more s13
      have ln13 := (ln11.step st11.at_ st1112 fun _ _ => rfl).grow s13
      have ld13 := (ld11.step st11.at_ st1112 fun _ _ => rfl).grow s13
      have lp13 := (lp11.step st11.at_ st1112 fun _ _ => rfl).grow s13
      have li13 := (li11.step st11.at_ st1112 fun _ _ => rfl).grow s13
      have hL13 := s13 _ _ (st1112.at hLb hL11)
      have dL13 := (st1112.dats st11.at_ dL11 imms_libs).mono s13
      -- main has a use
      refine ws_ifM (fun σ' H' => ∃ (u : Addr) (uz : List (S × S)), σ' = [some (.ref b), some (.int (n : Int)), some (.int 2), some (.ref pl), some (.ref L), some (.str who), none, none, some (.ref pn), some (.ref pr), some (.ref pd2), some (.ref u), x12, none, none, none] ∧ Same H13 H' ∧ LAt K H' b u encPair uz ∧ uz.length ≤ 2 ∧ (who = sMain → uz ≠ [])) (wt_and (wt_et (et_cmp od_eqS (ee_var 5 rfl) ee_str) (ρ := [none, none, none, none, none, some (.str who)]) (.skip (.skip (.skip (.skip (.skip (.cons (.str _) .nil)))))) fun H14 s14 => ?_)) ?_
      · by_cases hmw : who = sMain
        · rw [decide_eq_true (show who = Str.ofString "main" from hmw)]
          obtain ⟨wu, hwu, dwu⟩ := (lu13.grow s14).ex
          refine iteT (wt_nil (op_eqNil oo) (we_var 11 rfl ⟨pu2, wu, rfl, hwu, fun H15 s15 => ?_⟩))
          have hlu := dwu.length
          rw [List.length_map] at hlu
          cases wu with
          | nil =>
            refine iteT (ws_set 11 oo (we_ee (ee_lst (eac (ee_tup (eac ee_str (eac ee_str ea_nil))) ea_nil)) (ρ := []) .nil fun v16 H16 s16 dv16 => ?_))
            obtain ⟨u, rfl, lu16⟩ := LAt.of (g := encPair) (xs := [(_, _)]) (((st13.at_.grow s14).grow s15).grow s16) dv16 fun _ _ => rfl
            exact ws_nil ⟨u, _, rfl, (s14.trans s15).trans s16, lu16, by decide, fun _ => by simp⟩
          | cons z zs =>
            refine iteF (ws_nil ⟨pu2, us2, rfl, s14.trans s15, (lu13.grow s14).grow s15, by omega, fun _ e => ?_⟩)
            rw [e] at hlu
            simp at hlu
        · rw [decide_eq_false (show ¬ who = Str.ofString "main" from hmw)]
          exact iteF (iteF (ws_nil ⟨pu2, us2, rfl, s14, lu13.grow s14, by omega, fun h => absurd h hmw⟩))
      rintro σ' H16 ⟨u, uz, rfl, s16, lu16, hul16, hmain⟩
      have st16 : BStep H b (m + 100 * i + 60) H16 := st13.more s16
      obtain ⟨wu, hwu, dwu⟩ := lu16.ex
      have hwul : wu.length = uz.length := by rw [dwu.length, List.length_map]
      -- triples
      refine ws_set 12 oo (we_tupleL T.tuple (we_lcL [("_law_pair", 15)] oo (blkOk_by rfl) (we_var 11 rfl ⟨u, wu, rfl, SqL.of hwu, fun l2 hl2 => ⟨fun j H' => BStep H16 b (m + 100 * i + 60 + j) H' ∧ ∃ (acc : List V) (vs : List UseD), H' l2 = some (.lst acc) ∧ DatAll K H' acc (vs.map encUse) ∧ vs.length = j, ⟨(BStep.grow st16.at_ (Same.refl _)).put hl2 (st16.at_.ne hl2), [], [], upd_same, .nil, rfl⟩, ?_, ?_, ?_⟩⟩)))
      · rintro j H' hj ⟨st', _⟩
        exact SqL.of (st'.at lu16.ne hwu)
      · rintro j x H17 hx ⟨st17, acc, vs, hacc, dacc, hvl⟩
        intro bs bH bC bcl bfp
        refine wg_name 15 oo.blk ⟨rfl, ?_⟩
        intro bs bH bC bcl bfp
        refine wts_nil (iteT ?_)
        intro bs bH bC bcl bfp
        have hjl : j < 2 := by
          have := (List.getElem?_eq_some_iff.mp hx).1
          omega
        obtain ⟨pp, _, dv⟩ := dwu.mem (List.mem_of_getElem? hx)
        have dv17 := st17.dat st16.at_ dv rfl
        have hl2b : l2 ≠ b := st16.at_.ne hl2
        refine we_catT (we_var 15 rfl (we_tup (wa_cons (we_eqI (we_cal c_take oo.blk hk.1 (wa_cons (we_var 0 rfl (wa_cons (we_int (wa_nil ⟨b, m + 100 * i + 60 + j, 3, rfl, st17.at_, by omega, by omega, by omega, fun r H18 hr st18 => ⟨(r : Int), rfl, wa_nil ⟨by show 1 ≤ sizeLine; decide, fun q2 hq2 => ?_⟩⟩⟩))))))))))
        have dv18 := (st18.dat st17.at_ dv17 rfl).mono (Same.new (o := .tup [.bl (decide ((r : Int) = 0))]) hq2)
        cases dv18 with
        | @tup a vs' _ ha hd =>
          have hvl2 := hd.length
          refine ⟨a, q2, vs', [.bl (decide ((r : Int) = 0))], rfl, rfl, ha, SqT.of upd_same, (fun e => by rw [e] at hvl2; cases hvl2), by simp, ?_, fun rr hrr => ?_⟩
          · rw [hvl2]
            show 2 + 1 ≤ sizeLine
            decide
          · have hacc2 : upd (upd H18 q2 (.tup [.bl (decide ((r : Int) = 0))])) rr (.tup (vs' ++ [.bl (decide ((r : Int) = 0))])) l2 = some (.lst acc) := (Same.new hrr) _ _ ((Same.new hq2) _ _ (st18.at hl2b hacc))
            have dacc2 := ((st18.dats st17.at_ dacc imms_uses).mono (Same.new (o := .tup [.bl (decide ((r : Int) = 0))]) hq2)).mono (Same.new (o := .tup (vs' ++ [.bl (decide ((r : Int) = 0))])) hrr)
            refine ⟨acc, hacc2, ?_, ?_, acc ++ [.ref rr], vs ++ [(pp.1, pp.2, decide ((r : Int) = 0))], upd_same, ?_, ?_⟩
            · rw [dacc.length, List.length_map]
              exact Nat.lt_of_le_of_lt (by omega : _ ≤ 8) (by decide)
            · exact (((st17.trans st18).more (Same.new hq2)).more (Same.new hrr)).put hl2 hl2b
            · rw [List.map_append]
              have kT := upd_keepT (K := K) (o := .lst (acc ++ [.ref rr])) hacc2
              refine (DatAll.keepT kT dacc2 imms_uses).append (.one (Dat.keepT kT (.tup (.inl (.inl upd_same)) ?_) rfl))
              exact ((hd.mono (Same.new hrr)).append (.one (.bl _)))
            · rw [List.length_append, hvl]
              rfl
      · rintro H17 ⟨st17, acc, vs, hacc, dacc, hvl⟩
        refine ⟨l2, acc, rfl, hacc, fun pt hpt => ?_⟩
        have s18 : Same H17 (upd H17 pt (.tup acc)) := Same.new hpt
        have dtr : Dat K (upd H17 pt (.tup acc)) (.ref pt) (.tup (vs.map encUse)) := .tup (.inl (.inl upd_same)) (dacc.mono s18)
        generalize upd H17 pt (.tup acc) = H18 at s18 dtr ⊢
        have st1618 : BStep H16 b (m + 100 * i + 60 + wu.length) H18 := st17.more s18
        have ln18 := (ln13.grow s16).step st16.at_ st1618 fun _ _ => rfl
        have ld18 := (ld13.grow s16).step st16.at_ st1618 fun _ _ => rfl
        have lp18 := (lp13.grow s16).step st16.at_ st1618 fun _ _ => rfl
        have li18 := (li13.grow s16).step st16.at_ st1618 fun _ _ => rfl
        have hL18 := st1618.at hLb (s16 _ _ hL13)
        have dL18 := st1618.dats st16.at_ (dL13.mono s16) imms_libs
        obtain ⟨wn, hwn, dwn⟩ := ln18.ex
        obtain ⟨wd, hwd, dwd⟩ := ld18.ex
        refine ws_append (we_var 4 rfl ⟨L, rfl, ⟨_, hL18⟩, we_tup (wa_cons (we_var 5 rfl (wa_cons (we_tupleL T.tuple (we_var 8 rfl ⟨pn, wn, rfl, hwn, fun p1 hp1 => wa_cons (we_tupleL T.tuple (we_var 10 rfl ⟨pd2, wd, rfl, (Same.new hp1) _ _ hwd, fun p2 hp2 => wa_cons (we_var 12 rfl (wa_nil ⟨by show 4 ≤ sizeLine; decide, fun pq hpq => ⟨wsL, ?_, ?_, ws_nil ?_⟩⟩))⟩))⟩)))))⟩)
        · exact (Same.new hpq) _ _ ((Same.new hp2) _ _ ((Same.new hp1) _ _ hL18))
        · rw [dL18.length, List.length_map]
          have := congrArg List.length ok.names
          rw [List.length_map, List.length_take] at this
          exact Nat.lt_of_le_of_lt (by omega : _ ≤ 8) (by decide)
        · have s19 : Same H18 (upd H18 p1 (.tup wn)) := Same.new hp1
          have d19 : Dat K (upd H18 p1 (.tup wn)) (.ref p1) (.tup (needs.map D.str)) := .tup (.inl (.inl upd_same)) (dwn.mono s19)
          generalize upd H18 p1 (.tup wn) = H19 at s19 d19 hp2 hpq ⊢
          have s20 : Same H19 (upd H19 p2 (.tup wd)) := Same.new hp2
          have d20 : Dat K (upd H19 p2 (.tup wd)) (.ref p2) (.tup (ds2.map encPair)) := .tup (.inl (.inl upd_same)) ((dwd.mono s19).mono s20)
          generalize upd H19 p2 (.tup wd) = H20 at s20 d20 hpq ⊢
          have s21 : Same H20 (upd H20 pq (.tup [.str who, .ref p1, .ref p2, .ref pt])) := Same.new hpq
          have d21 : Dat K (upd H20 pq (.tup [.str who, .ref p1, .ref p2, .ref pt])) (.ref pq) (encLib ⟨who, needs, ds2, vs⟩) :=
            .tup (.inl (.inl upd_same)) (.cons (.str _) (.cons ((d19.mono s20).mono s21) (.cons (d20.mono s21) (.cons (((dtr.mono s19).mono s20).mono s21) .nil))))
          show Pv (i + 1) _ (upd (upd H20 pq (.tup [.str who, .ref p1, .ref p2, .ref pt])) L (.lst (wsL ++ [.ref pq])))
          generalize upd H20 pq (.tup [.str who, .ref p1, .ref p2, .ref pt]) = H21 at s21 d21 ⊢
          have s1821 : Same H18 H21 := (s19.trans s20).trans s21
          have hL21 := s1821 _ _ hL18
          have kT := upd_keepT (K := K) (o := .lst (wsL ++ [.ref pq])) hL21
          refine ⟨_, _, _, _, _, _, gs ++ [⟨who, needs, ds2, vs⟩], wsL ++ [.ref pq], rfl, ?_, (lp18.grow s1821).put hL21 hpL fun _ _ => rfl, (li18.grow s1821).put hL21 hiL fun _ _ => rfl, upd_same, ?_, ?_, ?_, ?_⟩
          · exact (((st16.trans st1618).more s1821).put hL0 hLb).mono (by omega)
          · rw [List.map_append]
            exact (DatAll.keepT kT (dL18.mono s1821) imms_libs).append (.one (Dat.keepT kT d21 imm_lib))
          · rw [List.map_append, ok.names, take_len hwho]
            rfl
          · intro l hl
            rcases List.mem_append.mp hl with h | h
            · exact ok.each l h
            · have : l = ⟨who, needs, ds2, vs⟩ := by simpa using h
              rw [this]
              exact ⟨fun z hz => List.mem_cons_of_mem _ (List.mem_filter.mp (hns z hz)).1, by show needs.length ≤ 2; omega, by show ds2.length ≤ 3; omega, by show vs.length ≤ 2; omega⟩
          · intro l hl
            cases gs with
            | cons g0 gr => exact ok.uses l hl
            | nil =>
              have e0 := ok.names
              have hi0 : i = 0 := by
                cases i with
                | zero => rfl
                | succ i => cases e0
              subst hi0
              have hw0 : who = sMain := (Option.some.inj hwho).symm
              have : (⟨who, needs, ds2, vs⟩ : LibD) = l := Option.some.inj hl
              rw [← this]
              intro e
              have e' : vs = [] := e
              rw [e'] at hvl
              have := hmain hw0
              cases uz with
              | nil => exact this rfl
              | cons _ _ =>
                rw [hwul] at hvl
                cases hvl
    · rintro σ H4 ⟨x5, x8, x9, x10, x11, x12, gs, wsL, rfl, st4', lp4, li4, hL4, dL4, ok⟩
      have st4 : BStep H b (m + 400) H4 := st4'.mono (by rw [List.length_map]; omega)
      have okn : gs.map (·.name) = nm := by
        have := ok.names
        rw [List.length_map, List.take_length] at this
        exact this
      -- modes
      refine ws_set 6 oo (we_ee (ee_lst (eac ee_str (eac ee_str (eac ee_str ea_nil)))) (ρ := []) .nil fun v5 H5 s5 dv5 => ?_)
      obtain ⟨md, rfl, lm5⟩ := LAt.of (g := D.str) (xs := [_, _, _]) (st4.at_.grow s5) dv5 fun _ _ => rfl
      have st5 := st4.more s5
      have hL5 := s5 _ _ hL4
      have dL5 := dL4.mono s5
      have lp5 := lp4.grow s5
      -- gates
      refine ws_lcL 7 [("_law_who", 5)] oo (blkOk_by rfl) (we_cal c_picked oo hk.2.2 (wa_cons (we_var 0 rfl (wa_cons (we_var 3 rfl (wa_cons (we_var 2 rfl (wa_nil (pickT (most := 2) lp5 st5.at_ (by omega) (by omega) (by omega) (fun _ _ => rfl) fun pg gn H6 hpg st56 lg6 hgn hgl => ?_))))))))) ?hy ?hyl ?hsw ?hs
      case hy => rfl
      case hyl => rfl
      case hsw => exact sw_true rfl rfl rfl (by decide +kernel)
      case hs => exact fun _ => rfl
      have st6 := st5.trans st56
      have lm6 := lm5.step st5.at_ st56 fun _ _ => rfl
      have lp6 := lp5.step st5.at_ st56 fun _ _ => rfl
      have hL6 := st56.at hLb hL5
      have dL6 := st56.dats st5.at_ dL5 imms_libs
      obtain ⟨wg, hwg, dwg⟩ := lg6.ex
      have hwgl : wg.length = gn.length := by rw [dwg.length, List.length_map]
      refine ⟨pg, wg, rfl, SqL.of hwg, fun l3 hl3 => ⟨fun j H' => BStep H6 b (m + 420 + j) H' ∧ ∃ (acc : List V) (gz : List (S × S)), H' l3 = some (.lst acc) ∧ DatAll K H' acc (gz.map encPair) ∧ gz.length = j ∧ ∀ g ∈ gz, g.1 ∈ poolAll.take n, ⟨(BStep.grow st6.at_ (Same.refl _)).put hl3 (st6.at_.ne hl3), [], [], upd_same, .nil, rfl, (fun g hg => by cases hg)⟩, ?_, ?_, ?_⟩⟩
      · rintro j H' hj ⟨st', _⟩
        exact SqL.of (st'.at lg6.ne hwg)
      · rintro j x H7 hx ⟨st7, acc, gz, hacc, dacc, hgzl, hgz⟩
        intro bs bH bC bcl bfp
        refine wg_name 5 oo.blk ⟨rfl, ?_⟩
        intro bs bH bC bcl bfp
        refine wts_nil (iteT ?_)
        intro bs bH bC bcl bfp
        have hjl : j < 2 := by
          have := (List.getElem?_eq_some_iff.mp hx).1
          omega
        obtain ⟨gm, hgm, dv⟩ := dwg.mem (List.mem_of_getElem? hx)
        cases dv
        have hl3b : l3 ≠ b := st6.at_.ne hl3
        refine we_tup (wa_cons (we_var 5 rfl (wa_cons (we_cal c_of oo.blk hk.2.1 (wa_cons (we_var 0 rfl (wa_cons (we_var 6 rfl (wa_nil (ofT (lm6.step st6.at_ st7 fun _ _ => rfl) st7.at_ (by omega) (by decide) (by simp) (fun _ _ => rfl) fun md hmd v8 H8 st8 dv8 => wa_nil ⟨by show 2 ≤ sizeLine; decide, fun q hq => ?_⟩))))))))))
        cases dv8
        have s9 : Same H8 (upd H8 q (.tup [.str gm, .str md])) := Same.new hq
        have d9 : Dat K (upd H8 q (.tup [.str gm, .str md])) (.ref q) (encPair (gm, md)) := .tup (.inl (.inl upd_same)) (.cons (.str _) (.cons (.str _) .nil))
        have hacc2 := s9 _ _ (st8.at hl3b hacc)
        have dacc2 := (st8.dats st7.at_ dacc imms_pairs).mono s9
        have kT := upd_keepT (K := K) (o := .lst (acc ++ [.ref q])) hacc2
        refine ⟨acc, hacc2, ?_, ((st7.trans st8).more s9).put hl3 hl3b, acc ++ [.ref q], gz ++ [(gm, md)], upd_same, ?_, ?_, ?_⟩
        · rw [dacc.length, List.length_map]
          exact Nat.lt_of_le_of_lt (by omega : _ ≤ 8) (by decide)
        · rw [List.map_append]
          exact (DatAll.keepT kT dacc2 imms_pairs).append (.one (Dat.keepT kT d9 rfl))
        · rw [List.length_append, hgzl]
          rfl
        · intro g hg
          rcases List.mem_append.mp hg with h | h
          · exact hgz g h
          · have : g = (gm, md) := by simpa using h
            rw [this]
            exact hgn gm hgm
      · rintro H7 ⟨st7, acc, gz, hacc, dacc, hgzl, hgz⟩
        have hl3b : l3 ≠ b := st6.at_.ne hl3
        have lg7 : LAt K H7 b l3 encPair gz := ⟨hl3b, acc, hacc, dacc⟩
        have st7' : BStep H b (m + 430) H7 := (st6.trans st7).mono (by omega)
        have lm7 := lm6.step st6.at_ st7 fun _ _ => rfl
        have lp7 := lp6.step st6.at_ st7 fun _ _ => rfl
        have hL7 := st7.at hLb hL6
        have dL7 := st7.dats st6.at_ dL6 imms_libs
        have hgz2 : gz.length ≤ 2 := by omega
        -- once more the first
        refine ws_ifM (fun σ' H' => ∃ (x13 : Option V) (pg : Addr) (gz : List (S × S)), σ' = [some (.ref b), some (.int (n : Int)), some (.int 2), some (.ref pl), some (.ref L), x5, some (.ref md), some (.ref pg), x8, x9, x10, x11, x12, x13, none, none] ∧ BStep H7 b (m + 440) H' ∧ LAt K H' b pg encPair gz ∧ gz.length ≤ 2 ∧ ∀ g ∈ gz, g.1 ∈ poolAll.take n) (wt_and3 (wt_nil (op_neNil oo) (we_var 7 rfl ⟨l3, acc, rfl, hacc, fun H8 s8 => ?_⟩))) ?_
        · have hal : acc.length = gz.length := by rw [dacc.length, List.length_map]
          cases gz with
          | nil =>
            have : acc = [] := List.eq_nil_of_length_eq_zero hal
            subst this
            exact iteF (iteF (ws_nil ⟨_, l3, [], rfl, (BStep.grow st7'.at_ s8).mono (by omega), lg7.grow s8, Nat.zero_le _, hgz⟩))
          | cons g0 gr =>
            cases acc with
            | nil => cases hal
            | cons a0 ar =>
              refine iteT (wt_et (et_cmp od_lt (ee_len T.len (n := (g0 :: gr).length) (ee_var 7 rfl) len_mapL) (ee_var 2 rfl)) (ρ := [none, none, some (.int 2), none, none, none, none, some (.lst ((g0 :: gr).map encPair))]) (.skip (.skip (.cons (.int _) (.skip (.skip (.skip (.skip (.cons (lg7.grow s8).dat .nil)))))))) fun H9 s9 => ?_)
              have s79 := s8.trans s9
              by_cases hlt : (((g0 :: gr).length : Nat) : Int) < 2
              · rw [decide_eq_true hlt]
                refine iteT (wt_eqI (we_cal c_take oo hk.1 (wa_cons (we_var 0 rfl (wa_cons (we_int (wa_nil ⟨b, m + 430, 4, rfl, st7'.at_.grow s79, by omega, by omega, by omega, fun r H10 hr st10 => ⟨(r : Int), rfl, ?_⟩⟩)))))))
                have st710 : BStep H7 b (m + 431) H10 := BStep.before s79 st10
                have lg10 := lg7.step st7'.at_ st710 fun _ _ => rfl
                have lm10 := lm7.step st7'.at_ st710 fun _ _ => rfl
                by_cases hr0 : (r : Int) = 0
                · rw [decide_eq_true hr0]
                  refine iteT (ws_set 13 oo (we_tup (wa_cons (we_ee (ee_ix (i := 0) (da := encPair g0) (d := .str g0.1) (ee_ix (i := 0) (da := .lst ((g0 :: gr).map encPair)) (d := encPair g0) (ee_var 7 rfl) ee_int at0) ee_int rfl) (ρ := [none, none, none, none, none, none, none, some (.lst ((g0 :: gr).map encPair))]) (.skip (.skip (.skip (.skip (.skip (.skip (.skip (.cons lg10.dat .nil)))))))) fun v11 H11 s11 dv11 => wa_cons (we_cal c_of oo hk.2.1 (wa_cons (we_var 0 rfl (wa_cons (we_var 6 rfl (wa_nil (ofT (lm10.grow s11) (st710.at_.grow s11) (by omega) (by decide) (by simp) (fun _ _ => rfl) fun mo hmo v12 H12 st12 dv12 => wa_nil ⟨by show 2 ≤ sizeLine; decide, fun q hq => ?_⟩)))))))))))
                  cases dv11
                  cases dv12
                  have s13 : Same H12 (upd H12 q (.tup [.str g0.1, .str mo])) := Same.new hq
                  have d13 : Dat K (upd H12 q (.tup [.str g0.1, .str mo])) (.ref q) (encPair (g0.1, mo)) := .tup (.inl (.inl upd_same)) (.cons (.str _) (.cons (.str _) .nil))
                  generalize upd H12 q (.tup [.str g0.1, .str mo]) = H13 at s13 d13 ⊢
                  have st713 : BStep H7 b (m + 432) H13 := ((st710.more s11).trans st12).more s13
                  have lg13 := lg7.step st7'.at_ st713 fun _ _ => rfl
                  let again : Bool := !((g0 :: gr).map encPair).any fun z => eqD z (encPair (g0.1, mo))
                  have hl1 : (g0 :: gr).length ≤ 1 := by omega
                  have fin : ∀ xs : List (S × S), fines (xs.map encPair) = true := fun xs => by
                    induction xs with
                    | nil => rfl
                    | cons x r ih => exact ih
                  refine ws_set 7 oo (we_ee (ee_is (d' := .lst (((g0 :: gr) ++ List.replicate (if again = true then 1 else 0) (g0.1, mo)).map encPair)) (by
                      rw [List.map_append]
                      cases again <;> rfl) (ee_op (od_addL (xs := (g0 :: gr).map encPair) (ys := (List.replicate (if again = true then 1 else 0) [encPair (g0.1, mo)]).flatten) (by
                      have : (List.replicate (if again = true then 1 else 0) [encPair (g0.1, mo)]).flatten.length ≤ 1 := by cases again <;> simp
                      rw [List.length_map]
                      exact Nat.le_trans (by omega : _ ≤ 2) (by decide))) (ee_var 7 rfl) (ee_op (od_rep (xs := [encPair (g0.1, mo)]) (n := if again = true then 1 else 0) (by show 1 * _ ≤ sizeLine; cases again <;> decide) (by cases again <;> decide)) (ee_lst (ea_cons (ee_var 13 rfl) ea_nil)) (ee_is (by cases again <;> rfl) (ee_intB (z := again) T.int (ee_cmp (od_notInD oo (da := encPair (g0.1, mo)) (xs := (g0 :: gr).map encPair) rfl (fun z hz => by obtain ⟨y, _, rfl⟩ := List.mem_map.mp hz; show max 0 (max 0 0) + 1 ≤ 60; decide) (fun z hz => by obtain ⟨y, _, rfl⟩ := List.mem_map.mp hz; rfl) (fin _) rfl) (ee_var 13 rfl) (ee_var 7 rfl)))))))
                    (ρ := [none, none, none, none, none, none, none, some (.lst ((g0 :: gr).map encPair)), none, none, none, none, none, some (encPair (g0.1, mo))]) (.skip (.skip (.skip (.skip (.skip (.skip (.skip (.cons lg13.dat (.skip (.skip (.skip (.skip (.skip (.cons d13 .nil)))))))))))))) fun v14 H14 s14 dv14 => ?_)
                  obtain ⟨pg2, rfl, lg14⟩ := LAt.of (st713.at_.grow s14) dv14 fun _ _ => rfl
                  refine ws_nil ⟨_, pg2, _, rfl, (st713.more s14).mono (by omega), lg14, ?_, ?_⟩
                  · rw [List.length_append, List.length_replicate]
                    have : (if again = true then 1 else 0) ≤ 1 := by cases again <;> decide
                    omega
                  · intro g hg
                    rcases List.mem_append.mp hg with h | h
                    · exact hgz g h
                    · have := List.eq_of_mem_replicate h
                      rw [this]
                      exact hgz g0 List.mem_cons_self
                · rw [decide_eq_false hr0]
                  exact iteF (ws_nil ⟨_, l3, g0 :: gr, rfl, st710.mono (by omega), lg10, hgz2, hgz⟩)
              · rw [decide_eq_false hlt]
                exact iteF (iteF (ws_nil ⟨_, l3, g0 :: gr, rfl, (BStep.grow st7'.at_ s79).mono (by omega), lg7.grow s79, hgz2, hgz⟩))
        · rintro σ' H8 ⟨x13, pg2, gz2, rfl, st8, lg8, hgl8, hgz8⟩
          have st8' : BStep H b (m + 440) H8 := st7'.trans st8
          have hL8 := st8.at hLb hL7
          have dL8 := st8.dats st7'.at_ dL7 imms_libs
          have lp8 := lp7.step st7'.at_ st8 fun _ _ => rfl
          refine ws_ret (we_tup (wa_cons (we_tupleL T.tuple (we_var 4 rfl ⟨L, wsL, rfl, hL8, fun p1 hp1 => ?_⟩))))
          have s9 : Same H8 (upd H8 p1 (.tup wsL)) := Same.new hp1
          have d9 : Dat K (upd H8 p1 (.tup wsL)) (.ref p1) (.tup (gs.map encLib)) := .tup (.inl (.inl upd_same)) (dL8.mono s9)
          generalize upd H8 p1 (.tup wsL) = H9 at s9 d9 ⊢
          have st9 := st8'.more s9
          have lp9 := lp8.grow s9
          have lg9 := lg8.grow s9
          refine wa_cons (we_tupleL T.tuple (WE.mono (Q := fun v H' => ∃ (pp : Addr) (pre : List S), v = .ref pp ∧ BStep H9 b (m + 480) H' ∧ LAt K H' b pp D.str pre ∧ pre.length ≤ 1) (we_ifx (wt_eqI (we_cal c_take oo hk.1 (wa_cons (we_var 0 rfl (wa_cons (we_int (wa_nil ⟨b, m + 440, 3, rfl, st9.at_, by omega, by omega, by omega, fun r H10 hr st10 => ⟨(r : Int), rfl, ?_⟩⟩)))))))) fun v H' ⟨pp, pre, e, st', lpre, hpre⟩ => ?_))
          · have lp10 := lp9.step st9.at_ st10 fun _ _ => rfl
            by_cases hr0 : (r : Int) = 0
            · rw [decide_eq_true hr0]
              exact iteT (we_cal c_picked oo hk.2.2 (wa_cons (we_var 0 rfl (wa_cons (we_var 3 rfl (wa_cons (we_int (wa_nil (pickT (most := 1) lp10 st10.at_ (by omega) (by omega) (by omega) (fun _ _ => rfl) fun pp pre H11 _ st11 lpre _ hpre => ⟨pp, pre, rfl, (st10.trans st11).mono (by omega), lpre, hpre⟩)))))))))
            · rw [decide_eq_false hr0]
              exact iteF (we_of (pe_lst pa_nil) ⟨Nat.zero_le _, fun pp hpp => ⟨pp, [], rfl, (st10.more (Same.new hpp)).mono (by omega), LAt.new st10.at_ hpp upd_same .nil, Nat.zero_le _⟩⟩)
          · obtain ⟨wp, hwp, dwp⟩ := lpre.ex
            have lg' := lg9.step st9.at_ st' fun _ _ => rfl
            obtain ⟨wg2, hwg2, dwg2⟩ := lg'.ex
            refine ⟨pp, wp, e, hwp, fun p2 hp2 => wa_cons (we_tupleL T.tuple (we_var 7 rfl ⟨pg2, wg2, rfl, (Same.new hp2) _ _ hwg2, fun p3 hp3 => wa_nil ⟨by show 3 ≤ sizeLine; decide, fun pq hpq => ?_⟩⟩))⟩
            have s12 : Same H' (upd H' p2 (.tup wp)) := Same.new hp2
            have d12 : Dat K (upd H' p2 (.tup wp)) (.ref p2) (.tup (pre.map D.str)) := .tup (.inl (.inl upd_same)) (dwp.mono s12)
            generalize upd H' p2 (.tup wp) = H12 at s12 d12 hp3 hpq ⊢
            have s13 : Same H12 (upd H12 p3 (.tup wg2)) := Same.new hp3
            have d13 : Dat K (upd H12 p3 (.tup wg2)) (.ref p3) (.tup (gz2.map encPair)) := .tup (.inl (.inl upd_same)) ((dwg2.mono s12).mono s13)
            generalize upd H12 p3 (.tup wg2) = H13 at s13 d13 hpq ⊢
            have s14 : Same H13 (upd H13 pq (.tup [.ref p1, .ref p2, .ref p3])) := Same.new hpq
            have d9' : Dat K H' (.ref p1) (.tup (gs.map encLib)) := st'.dat st9.at_ d9 imms_libs
            refine hQ ⟨gs, pre, gz2⟩ _ _ (((((st9.trans st').more s12).more s13).more s14).mono (by omega)) (.tup (.inl (.inl upd_same)) (.cons ((((d9'.mono s12).mono s13)).mono s14) (.cons ((d12.mono s13).mono s14) (.cons (d13.mono s14) .nil)))) ?_
            have hnm : K74.names ⟨gs, pre, gz2⟩ = nm := okn
            refine ⟨⟨n, hn2, hn3, okn⟩, fun l hl => ?_, ?_, ⟨fun g hg => ?_, hgl8⟩, hpre⟩
            · rw [hnm]
              exact ok.each l hl
            · cases gs with
              | nil => exact absurd (congrArg List.length okn) (by show ¬ (0 : Nat) = (poolAll.take n).length + 1; omega)
              | cons l r => exact ⟨l, r, rfl, ok.uses l rfl⟩
            · rw [hnm]
              exact List.mem_cons_of_mem _ (hgz8 g hg)
end
end K74

set_option Elab.async false
set_option linter.all false
set_option maxRecDepth 100000
set_option maxHeartbeats 4000000
/-! K74.KH8: _law_wish. -/
namespace K74
open PySem PySem.Spec PyProof.Rows L2
theorem libOf_own {G : ProgD} (W : WF G) {l : LibD} (hl : l ∈ G.libs) : libOf G l.name = some l := by
  obtain ⟨l', h1, h2, h3⟩ := libOf_some (P := G) (n := l.name) (List.mem_map.mpr ⟨l, hl, rfl⟩)
  rw [h1]
  obtain ⟨i, hi⟩ := List.mem_iff_getElem?.mp hl
  obtain ⟨j, hj⟩ := List.mem_iff_getElem?.mp h2
  have hil := (List.getElem?_eq_some_iff.mp hi).1
  have e1 : (names G)[i]? = some l.name := by unfold names; rw [List.getElem?_map, hi]; rfl
  have e2 : (names G)[j]? = some l.name := by unfold names; rw [List.getElem?_map, hj, ← h3]; rfl
  have hin : i < (names G).length := by unfold names; rw [List.length_map]; exact hil
  have hij : i = j := (List.getElem?_inj hin W.nd).mp (e1.trans e2.symm)
  subst hij
  rw [hi] at hj
  exact hj.symm
theorem callsM_mem {G : ProgD} {c : S × Nat} (h : c ∈ callsM G) : ∃ l ∈ G.libs, l.name = c.1 ∧ c.2 < l.uses.length := by
  obtain ⟨l, hl, h1⟩ := List.mem_flatMap.mp h
  obtain ⟨i, hi, rfl⟩ := List.mem_map.mp h1
  exact ⟨l, hl, rfl, List.mem_range.mp hi⟩
theorem callsM_ne {G : ProgD} (h : GoodG G) : callsM G ≠ [] := by
  obtain ⟨l, r, h1, h2⟩ := h.uses
  intro e
  have : (l.name, 0) ∈ callsM G := List.mem_flatMap.mpr ⟨l, by rw [h1]; exact List.mem_cons_self, List.mem_map.mpr ⟨0, List.mem_range.mpr (List.length_pos_iff.mpr h2), rfl⟩⟩
  rw [e] at this
  cases this
def encSome (u : UseD) (l : LibD) : D := .tup [.str sBound, .str l.name, encOptS (lawGives l u)]
section
variable {P : Program} {w : World} {K : PySem.W.Frag} {mg : Str → Option Value} {base : Heap} {f : Addr} {fd : FuncData} {k : Nat}
abbrev s_law_wish : Stmt := top 68
theorem sc_law_wish : FnScope ["_law_box_here", "_law_prog", "_law_calls_here", "_law_some", "_law_who", "_law_i", "_law_use", "_law_way", "_law_own"] ["_law_box_here", "_law_prog"] (defScope s_law_wish) := ⟨rfl, rfl, rfl, by decide +kernel, rfl, by decide +kernel, by decide +kernel⟩
def QWish (K : PySem.W.Frag) : List V → Hp → VK → Prop := fun vs H Q => ∃ (b : Addr) (m : Nat) (vp : V) (G : ProgD), vs = [.ref b, vp] ∧ BAt H b m ∧ m + 10 ≤ 1000000 ∧ Dat K H vp (encProg G) ∧ GoodG G ∧ ∀ (w : WantD) (v : V) (H' : Hp), BStep H b (m + 10) H' → Dat K H' v (encWant w) → WOk G w → Q v H'
theorem ok_law_wish {kt kof kc kl kg : Nat} (F : Fun K "_law_wish" "_law_wish" s_law_wish f fd) (T : Gb mg) (hk : kt ≤ k ∧ kof ≤ k ∧ kc ≤ k ∧ kl ≤ k ∧ kg ≤ k) (c_take : Cal P w K mg base kt "_law_take" (spG QTake)) (c_of : Cal P w K mg base kof "_law_of" (spG QOf)) (c_calls : Cal P w K mg base kc "_law_calls" (spP K RLawCalls)) (c_lib : Cal P w K mg base kl "_law_lib" (spP K RLawLib)) (c_gives : Cal P w K mg base kg "_law_gives" (spP K RLawGives)) : FnOk P w K mg base CX0 (k + 1) f fd ["_law_box_here", "_law_prog"] (spG (QWish K)) := by
  refine fn_W F sc_law_wish (fun vs H Q h => ?_) (fun cdv A outer s H E vs Q oo h => ?_)
  · obtain ⟨b, m, vp, G, rfl, _⟩ := h
    rfl
  · obtain ⟨b, m, vp, G, rfl, hb, hm, dp, gg, hQ⟩ := h
    have hz := gg.sz
    have hz1 := hz.libs
    -- calls
    refine ws_set 2 oo (we_ee (ee_call c_calls oo hk.2.2.1 (ea_cons (ee_var 1 rfl) ea_nil) (fun _ _ => ⟨G, rfl, rfl, hz⟩)) (ρ := [none, some (encProg G)]) (.skip (.cons dp .nil)) fun v1 H1 s1 dv1 => ?_)
    have hb1 := hb.grow s1
    obtain ⟨lc, rfl, lc1⟩ := LAt.of hb1 dv1 fun _ _ => rfl
    have hcl : (callsM G).length ≤ 64 := calls_len hz1 hz.uses
    refine ws_asg (we_cal c_of oo hk.2.1 (wa_cons (we_var 0 rfl (wa_cons (we_var 2 rfl (wa_nil (ofT lc1 hb1 (by omega) (by omega) (callsM_ne gg) (fun _ _ => rfl) fun c hc v2 H2 st2 dv2 => ?_)))))))
    obtain ⟨l, hl, hln, hli⟩ := callsM_mem hc
    have hlib : libOf G c.1 = some l := by rw [← hln]; exact libOf_own gg.wf hl
    have hu : l.uses[c.2]? = some l.uses[c.2] := List.getElem?_eq_getElem hli
    generalize l.uses[c.2] = u at hu
    obtain ⟨q2, rfl, hq2⟩ : ∃ q, v2 = .ref q ∧ SqT K H2 q [.str c.1, .int (c.2 : Int)] := by
      cases dv2 with
      | tup hq hd =>
        cases hd with
        | cons a1 hd =>
          cases hd with
          | cons a2 hd =>
            cases hd
            cases a1
            cases a2
            exact ⟨_, rfl, hq⟩
    refine wg_two 4 5 oo hq2 ?_
    have dp2 := st2.dat hb1 (dp.mono s1) imm_prog
    have st2' : BStep H b (m + 1) H2 := BStep.before s1 st2
    -- use, way
    refine ws_asg (we_tup (wa_cons (we_ee (ee_ix (da := .tup (l.uses.map encUse)) (d := encUse u) (i := (c.2 : Int)) (ee_ix (da := encLib l) (ee_call c_lib oo hk.2.2.2.1 (ea_cons (ee_var 1 rfl) (ea_cons (ee_var 4 rfl) ea_nil)) (fun _ _ => ⟨G, c.1, l, rfl, rfl, hlib, hz1⟩)) ee_int rfl) (ee_var 5 rfl) (atI_nat (xs := l.uses.map encUse) (by rw [List.getElem?_map, hu]; rfl))) (ρ := [none, some (encProg G), none, none, some (.str c.1), some (.int (c.2 : Int))]) (.skip (.cons dp2 (.skip (.skip (.cons (.str _) (.cons (.int _) .nil)))))) fun v3 H3 s3 dv3 => wa_cons (we_cal c_take oo hk.1 (wa_cons (we_var 0 rfl (wa_cons (we_int (wa_nil ⟨b, m + 1, 9, rfl, st2'.at_.grow s3, by omega, by omega, by omega, fun r H4 hr st4 => wa_nil ⟨by show 2 ≤ sizeLine; decide, fun q5 hq5 => ?_⟩⟩)))))))))
    have st3' := st2'.more s3
    have dv4 := st4.dat st3'.at_ dv3 rfl
    have dp4 := st4.dat st3'.at_ (dp2.mono s3) imm_prog
    have st4' : BStep H b (m + 2) H4 := st3'.trans st4
    have s5 : Same H4 (upd H4 q5 (.tup [v3, .int (r : Int)])) := Same.new hq5
    have hq5' : upd H4 q5 (.tup [v3, .int (r : Int)]) q5 = some (.tup [v3, .int (r : Int)]) := upd_same
    generalize upd H4 q5 (.tup [v3, .int (r : Int)]) = H5 at s5 hq5' ⊢
    refine wg_two 6 7 oo (SqT.of hq5') ?_
    have st5' := st4'.more s5
    have dv5 := dv4.mono s5
    have dp5 := dp4.mono s5
    -- some
    refine ws_setLc 3 oo (lc_mk (xs := G.libs) (enc := encLib) (p := fun _ => true) (f := encSome u) (ρ := [none, some (encProg G), none, none, none, none, some (encUse u), none, none]) (ρ' := fun l => [none, some (encProg G), none, none, none, none, some (encUse u), none, some (encLib l)]) [("_law_own", 8)] (blkOk_by rfl) (si_tup (ee_ix (da := encProg G) (ee_var 1 rfl) ee_int rfl)) (fun _ _ _ _ _ => pg_name (i := 8) oo.nd rfl (Or.inl rfl)) (fun x hx => tg_name) (fun _ _ _ _ _ x hx => ets_nil)
      (fun _ _ _ _ _ x hx hp => (ee_tup (ea_cons ee_str (ea_cons (ee_ix (da := encLib x) (ee_var 8 rfl) ee_int rfl) (ea_cons (ee_call c_gives oo.blk hk.2.2.2.2 (ea_cons (ee_var 1 rfl) (ea_cons (ee_ix (da := encLib x) (ee_var 8 rfl) ee_int rfl) (ea_cons (ee_var 6 rfl) ea_nil))) (fun _ _ => ⟨G, x.name, x, u, rfl, rfl, libOf_own gg.wf hx, hz1, hz.defs x hx⟩)) ea_nil))))) (own1 rfl) (fun x hx => by
        show imms [_, _, encOptS (lawGives x u)] = true
        cases lawGives x u <;> rfl) (sz8 hz1)) (.skip (.cons dp5 (.skip (.skip (.skip (.skip (.cons dv5 (.skip (.skip .nil))))))))) fun p6 w6 H6 hp6 s6 h6 d6 => ?_
    have el6 : EL K H6 [none, some (encProg G), none, some (.lst ((G.libs.filter fun _ => true).map (encSome u))), none, none, some (encUse u), none, none] [some (.ref b), some vp, some (.ref lc), some (.ref p6), some (.str c.1), some (.int (c.2 : Int)), some v3, some (.int (r : Int)), none] :=
      .skip (.cons (dp5.mono s6) (.skip (.cons (.lst h6 d6) (.skip (.skip (.cons (dv5.mono s6) (.skip (.skip .nil))))))))
    have st6' := st5'.more s6
    have efl : (G.libs.filter fun _ => true) = G.libs := List.filter_eq_self.mpr fun _ _ => rfl
    rw [efl] at el6
    have himm : ∀ l : LibD, (encSome u l).imm = true := fun l => by
      show imms [_, _, encOptS (lawGives l u)] = true
      cases lawGives l u <;> rfl
    refine ws_setLc 3 oo (lc_mk (xs := G.libs) (enc := encSome u) (p := fun l => !isNonD (encOptS (lawGives l u))) (f := encSome u) (ρ := [none, some (encProg G), none, some (.lst (G.libs.map (encSome u))), none, none, some (encUse u), none, none]) (ρ' := fun l => [none, some (encProg G), none, some (.lst (G.libs.map (encSome u))), none, none, some (encUse u), none, some (encSome u l)]) [("_law_own", 8)] (blkOk_by rfl) (si_lst (ee_var 3 rfl)) (fun _ _ _ _ _ => pg_name (i := 8) oo.nd rfl (Or.inl rfl)) (fun x hx => tg_name) (fun _ _ _ _ _ x hx => ets_one (et_cmp od_notN (ee_ix (da := encSome u x) (ee_var 8 rfl) ee_int rfl) ee_non)) (fun _ _ _ _ _ x hx hp => (ee_var 8 rfl)) (own1 rfl) (fun x hx => himm x) (sz8 hz1)) el6 fun p7 w7 H7 hp7 s7 h7 d7 => ?_
    have st7 := st6'.more s7
    have ls7 : LAt K H7 b p7 (encSome u) (G.libs.filter fun l => !isNonD (encOptS (lawGives l u))) := LAt.new st6'.at_ hp7 h7 d7
    have dv7 := (dv5.mono s6).mono s7
    have hwl : w7.length = (G.libs.filter fun l => !isNonD (encOptS (lawGives l u))).length := by rw [d7.length, List.length_map]
    -- a want of this call
    have wok : ∀ a : Ans, AnsOk a → WOk G ⟨c.1, c.2, a⟩ := fun a ha => ⟨⟨l, u, hlib, hu⟩, ha⟩
    refine ws_ifM (fun σ' H' => σ' = [some (.ref b), some vp, some (.ref lc), some (.ref p7), some (.str c.1), some (.int (c.2 : Int)), some v3, some (.int (r : Int)), none] ∧ Same H7 H') (wt_and (wt_nil (op_neNil oo) (we_var 3 rfl ⟨p7, w7, rfl, h7, fun H8 s8 => ?_⟩))) ?_
    · cases w7 with
      | nil => exact iteF (iteF (ws_nil ⟨rfl, s8⟩))
      | cons z zs =>
        refine iteT (wt_et (et_cmp od_lt (ee_var 7 rfl) ee_int) (ρ := [none, none, none, none, none, none, none, some (.int (r : Int))]) (.skip (.skip (.skip (.skip (.skip (.skip (.skip (.cons (.int _) .nil)))))))) fun H9 s9 => ?_)
        by_cases hr7 : (r : Int) < 7
        · rw [decide_eq_true hr7]
          have ls9 := (ls7.grow s8).grow s9
          have st9 := (st7.more s8).more s9
          refine iteT (ws_ret (we_tup (wa_cons (we_var 4 rfl (wa_cons (we_var 5 rfl (wa_cons (we_cal c_of oo hk.2.1 (wa_cons (we_var 0 rfl (wa_cons (we_var 3 rfl (wa_nil (ofT ls9 st9.at_ (by omega) (Nat.le_trans (List.length_filter_le ..) (by omega)) (fun e => by rw [e] at hwl; cases hwl) (fun l _ => himm l) fun lw hlw v10 H10 st10 dv10 => wa_nil ⟨by show 3 ≤ sizeLine; decide, fun q hq => ?_⟩))))))))))))))
          obtain ⟨v, hv⟩ : ∃ v, lawGives lw u = some v := by
            have := (List.mem_filter.mp hlw).2
            cases hg : lawGives lw u with
            | none => rw [hg] at this; cases this
            | some v => exact ⟨v, rfl⟩
          have e10 : encSome u lw = encAns [sBound, lw.name, v] := by unfold encSome; rw [hv]; rfl
          rw [e10] at dv10
          exact hQ ⟨c.1, c.2, [sBound, lw.name, v]⟩ _ _ (((st9.trans st10).more (Same.new hq)).mono (by omega)) (.tup (.inl (.inl upd_same)) (.cons (.str _) (.cons (.int _) (.cons (dv10.mono (Same.new hq)) .nil)))) (wok _ (.inl ⟨_, _, rfl⟩))
        · rw [decide_eq_false hr7]
          exact iteF (ws_nil ⟨rfl, s8.trans s9⟩)
    · rintro σ' H8 ⟨rfl, s8⟩
      have st8 := st7.more s8
      have dv8 := dv7.mono s8
      refine ws_ifM (fun σ' H' => σ' = [some (.ref b), some vp, some (.ref lc), some (.ref p7), some (.str c.1), some (.int (c.2 : Int)), some v3, some (.int (r : Int)), none] ∧ Same H8 H') (wt_et (et_cmp od_eqI (ee_var 7 rfl) ee_int) (ρ := [none, none, none, none, none, none, none, some (.int (r : Int))]) (.skip (.skip (.skip (.skip (.skip (.skip (.skip (.cons (.int _) .nil)))))))) fun H9 s9 => ?_) ?_
      · have st9 := st8.more s9
        by_cases hr7 : (r : Int) = 7
        · rw [decide_eq_true hr7]
          refine iteT (ws_ret (we_tup (wa_cons (we_var 4 rfl (wa_cons (we_var 5 rfl (wa_cons (we_tup (wa_cons (we_of pe_str ?_))))))))))
          refine wa_cons (we_cal c_of oo hk.2.1 (wa_cons (we_var 0 rfl (wa_cons (we_ee (ee_lst (eac ee_str (eac ee_str (eac ee_str ea_nil)))) (ρ := []) .nil fun v10 H10 s10 dv10 => ?_)))))
          obtain ⟨pa, rfl, la10⟩ := LAt.of (g := D.str) (xs := [_, _, _]) (st9.at_.grow s10) dv10 fun _ _ => rfl
          have st10 := st9.more s10
          refine wa_nil (ofT la10 st10.at_ (by omega) (by decide) (by simp) (fun _ _ => rfl) fun na hna v11 H11 st11 dv11 => ?_)
          cases dv11
          refine wa_cons (we_cal c_of oo hk.2.1 (wa_cons (we_var 0 rfl (wa_cons (we_ee (ee_lst (eac ee_str (eac ee_str ea_nil))) (ρ := []) .nil fun v12 H12 s12 dv12 => ?_)))))
          have st12 := (st10.trans st11).more s12
          obtain ⟨pb, rfl, lb12⟩ := LAt.of (g := D.str) (xs := [_, _]) st12.at_ dv12 fun _ _ => rfl
          refine wa_nil (ofT lb12 st12.at_ (by omega) (by decide) (by simp) (fun _ _ => rfl) fun nb hnb v13 H13 st13 dv13 => ?_)
          cases dv13
          refine wa_nil ⟨by show 3 ≤ sizeLine; decide, fun q hq => wa_nil ⟨by show 3 ≤ sizeLine; decide, fun q' hq' => ?_⟩⟩
          have s14 : Same H13 (upd H13 q (.tup [.str sBound, .str na, .str nb])) := Same.new hq
          have d14 : Dat K (upd H13 q (.tup [.str sBound, .str na, .str nb])) (.ref q) (encAns [sBound, na, nb]) := .tup (.inl (.inl upd_same)) (.cons (.str _) (.cons (.str _) (.cons (.str _) .nil)))
          exact hQ ⟨c.1, c.2, [sBound, na, nb]⟩ _ _ ((((st12.trans st13).more s14).more (Same.new hq')).mono (by omega)) (.tup (.inl (.inl upd_same)) (.cons (.str _) (.cons (.int _) (.cons (d14.mono (Same.new hq')) .nil)))) (wok _ (.inl ⟨_, _, rfl⟩))
        · rw [decide_eq_false hr7]
          exact iteF (ws_nil ⟨rfl, s9⟩)
      · rintro σ' H9 ⟨rfl, s9⟩
        have st9 := st8.more s9
        refine ws_ret (we_ee (ee_tup (ea_cons (ee_var 4 rfl) (ea_cons (ee_var 5 rfl) (ea_cons (ee_if (x := u.2.2) (d1 := encAns [sNobody]) (d2 := encAns [sLost]) (et_val (ee_ix (da := encUse u) (ee_var 6 rfl) ee_int rfl)) (fun _ => ee_tup (ea_cons ee_str ea_nil)) (fun _ => ee_tup (ea_cons ee_str ea_nil))) ea_nil)))) (ρ := [none, none, none, none, some (.str c.1), some (.int (c.2 : Int)), some (encUse u)]) (.skip (.skip (.skip (.skip (.cons (.str _) (.cons (.int _) (.cons (dv8.mono s9) .nil))))))) fun v10 H10 s10 dv10 => ?_)
        have st10 := st9.more s10
        cases hw : u.2.2 with
        | true =>
          rw [hw] at dv10
          exact hQ ⟨c.1, c.2, [sNobody]⟩ _ _ (st10.mono (by omega)) dv10 (wok _ (.inr (.inl rfl)))
        | false =>
          rw [hw] at dv10
          exact hQ ⟨c.1, c.2, [sLost]⟩ _ _ (st10.mono (by omega)) dv10 (wok _ (.inr (.inr rfl)))
end
end K74

set_option Elab.async false
set_option linter.all false
set_option maxRecDepth 100000
set_option maxHeartbeats 4000000
/-! K74.KH9: _law_wishes. -/
namespace K74
open PySem PySem.Spec PyProof.Rows L2
section
variable {P : Program} {w : World} {K : PySem.W.Frag} {mg : Str → Option Value} {base : Heap} {f : Addr} {fd : FuncData} {k : Nat}
abbrev s_law_wishes : Stmt := top 69
theorem sc_law_wishes : FnScope ["_law_box_here", "_law_prog", "_law_most", "_law_found", "_law_turn", "_law_own", "_law_mate"] ["_law_box_here", "_law_prog", "_law_most"] (defScope s_law_wishes) := ⟨rfl, rfl, rfl, by decide +kernel, rfl, by decide +kernel, by decide +kernel⟩
def QWishes (K : PySem.W.Frag) : List V → Hp → VK → Prop := fun vs H Q => ∃ (b : Addr) (m : Nat) (vp : V) (G : ProgD), vs = [.ref b, vp, .int 3] ∧ BAt H b m ∧ m + 100 ≤ 1000000 ∧ Dat K H vp (encProg G) ∧ GoodG G ∧ ∀ (ws : List WantD) (v : V) (H' : Hp), BStep H b (m + 100) H' → Dat K H' v (.tup (ws.map encWant)) → (∀ w ∈ ws, WOk G w) → ws.length ≤ 64 → Q v H'
def encHead (w : WantD) : D := .tup [.str w.who, .int (w.i : Int)]
theorem fine_heads : ∀ {ws : List WantD}, fines (ws.map encHead) = true
  | [] => rfl
  | _ :: r => fine_heads (ws := r)
theorem ok_law_wishes {kt kw : Nat} (F : Fun K "_law_wishes" "_law_wishes" s_law_wishes f fd) (T : Gb mg) (hk : kt ≤ k ∧ kw ≤ k) (c_take : Cal P w K mg base kt "_law_take" (spG QTake)) (c_wish : Cal P w K mg base kw "_law_wish" (spG (QWish K))) : FnOk P w K mg base CX0 (k + 1) f fd ["_law_box_here", "_law_prog", "_law_most"] (spG (QWishes K)) := by
  refine fn_W F sc_law_wishes (fun vs H Q h => ?_) (fun cdv A outer s H E vs Q oo h => ?_)
  · obtain ⟨b, m, vp, G, rfl, _⟩ := h
    rfl
  · obtain ⟨b, m, vp, G, rfl, hb, hm, dp, gg, hQ⟩ := h
    refine ws_set 3 oo (we_of (pe_lst pa_nil) ⟨Nat.zero_le _, fun Fd hFd => ?_⟩)
    have s1 : Same H (upd H Fd (.lst [])) := Same.new hFd
    have hF1 : upd H Fd (.lst []) Fd = some (.lst []) := upd_same
    have hFb : Fd ≠ b := hb.ne hFd
    generalize upd H Fd (.lst []) = H1 at s1 hF1 ⊢
    have hb1 := hb.grow s1
    let Pv : Nat → L2.St → Hp → Prop := fun i σ H' => ∃ (x4 x5 : Option V) (wsV : List V) (ws : List WantD), σ = [some (.ref b), some vp, some (.int 3), some (.ref Fd), x4, x5, none] ∧ BStep H b (m + 1 + 10 * i) H' ∧ H' Fd = some (.lst wsV) ∧ DatAll K H' wsV (ws.map encWant) ∧ (∀ w ∈ ws, WOk G w) ∧ ws.length ≤ i
    refine ws_forR oo PassesOwn.never T.range (we_of (pe_op op_add pe_w pe_w) (we_int (we_cal c_take oo hk.1 (wa_cons (we_var 0 rfl (wa_cons (we_var 2 rfl (wa_nil ⟨b, m, 3, rfl, hb1, by omega, by omega, by omega, fun r H2 hr st2 => ⟨1, (r : Int), rfl, rfl, 1 + r, Pv, by push_cast; rfl, by omega, ?_, ?_, ?_⟩⟩))))))))
    · exact ⟨none, none, [], [], rfl, (BStep.before s1 st2).mono (by omega), st2.at hFb hF1, .nil, (fun w hw => by cases hw), Nat.zero_le _⟩
    · rintro i σ H3 hi ⟨x4, x5, wsV, ws, rfl, st3, hF3, d3, hws, hwl⟩
      refine wg_name 4 oo ?_
      have dp3 := st3.dat hb dp imm_prog
      refine ws_set 5 oo (we_cal c_wish oo hk.2 (wa_cons (we_var 0 rfl (wa_cons (we_var 1 rfl (wa_nil ⟨b, m + 1 + 10 * i, vp, G, rfl, st3.at_, by omega, dp3, gg, fun wt v H4 st4 dv4 hwt => ?_⟩))))))
      have d4 := st4.dats st3.at_ d3 (imms_map fun _ _ => imm_want)
      have hF4 := st4.at hFb hF3
      have st4' : BStep H b (m + 1 + 10 * i + 10) H4 := st3.trans st4
      have el4 : EL K H4 [none, none, none, some (.lst (ws.map encWant)), none, some (encWant wt), none] [some (.ref b), some vp, some (.int 3), some (.ref Fd), some (.int (i : Nat)), some v, none] := .skip (.skip (.skip (.cons (.lst hF4 d4) (.skip (.cons dv4 (.skip .nil))))))
      have hi4 : i < 4 := by omega
      refine ws_ifE (z := !(ws.map encHead).any fun z => eqD z (encHead wt)) (et_cmp (od_notInD oo (da := encHead wt) (xs := ws.map encHead) (db := .lst (ws.map encHead)) rfl (fun z hz => by obtain ⟨y, _, rfl⟩ := List.mem_map.mp hz; show max 0 (max 0 0) + 1 ≤ 60; decide) (fun z hz => by obtain ⟨y, _, rfl⟩ := List.mem_map.mp hz; rfl) fine_heads rfl)
          (ee_to (n := 2) (xs := [.str wt.who, .int (wt.i : Int), encAns wt.ans]) (ee_var 5 rfl) ee_int (pe_slice sl_tupA (ee_var 5 rfl) po_none (po_some ee_int)))
          (ee_lc oo (lc_is (by rw [List.filter_eq_self.mpr (fun _ _ => rfl)]) (lc_mk (xs := ws) (enc := encWant) (p := fun _ => true) (f := encHead) (ρ := [none, none, none, some (.lst (ws.map encWant)), none, some (encWant wt), none]) (ρ' := fun x => [none, none, none, some (.lst (ws.map encWant)), none, some (encWant wt), some (encWant x)]) [("_law_mate", 6)] (blkOk_by rfl) (si_lst (ee_var 3 rfl)) (fun _ _ _ _ _ => pg_name (i := 6) oo.nd rfl (Or.inl rfl)) (fun x hx => tg_name) (fun _ _ _ _ _ x hx => ets_nil)
            (fun _ _ _ _ _ x hx hp => ee_to (n := 2) (xs := [.str x.who, .int (x.i : Int), encAns x.ans]) (ee_var 6 rfl) ee_int (pe_slice sl_tupA (ee_var 6 rfl) po_none (po_some ee_int))) (own1 rfl) (fun x hx => rfl) (sz64 (by omega)))))) el4 (fun hz H5 s5 => ?_) (fun hz H5 s5 => ws_nil (ws_nil ⟨_, _, wsV, ws, rfl, (st4'.more s5).mono (by omega), s5 _ _ hF4, d4.mono s5, hws, by omega⟩))
      have hF5 := s5 _ _ hF4
      have kT := upd_keepT (K := K) (o := .lst (wsV ++ [v])) hF5
      refine ws_append (we_var 3 rfl ⟨Fd, rfl, ⟨_, hF5⟩, we_var 5 rfl ⟨wsV, hF5, ?_, ws_nil (ws_nil ⟨_, _, wsV ++ [v], ws ++ [wt], rfl, ((st4'.more s5).put hFd hFb).mono (by omega), upd_same, ?_, ?_, ?_⟩)⟩⟩)
      · rw [d4.length, List.length_map]
        exact Nat.lt_of_le_of_lt (by omega : _ ≤ 8) (by decide)
      · rw [List.map_append]
        exact (DatAll.keepT kT (d4.mono s5) (imms_map fun _ _ => imm_want)).append (.one (Dat.keepT kT (dv4.mono s5) imm_want))
      · intro x hx
        rcases List.mem_append.mp hx with h | h
        · exact hws x h
        · have : x = wt := by simpa using h
          rw [this]
          exact hwt
      · rw [List.length_append]
        simp only [List.length_cons, List.length_nil]
        omega
    · rintro σ H3 ⟨x4, x5, wsV, ws, rfl, st3, hF3, d3, hws, hwl⟩
      refine ws_ret (we_tupleL T.tuple (we_var 3 rfl ⟨Fd, wsV, rfl, hF3, fun p hp => hQ ws _ _ ((st3.more (Same.new hp)).mono (by omega)) (.tup (.inl (.inl upd_same)) (d3.mono (Same.new hp))) hws (by omega)⟩))
end
end K74

set_option Elab.async false
set_option linter.all false
set_option maxRecDepth 100000
set_option maxHeartbeats 4000000
/-! K74.KHA: _law_box; the program by hand. -/
namespace K74
open PySem PySem.Spec PyProof.Rows L2
theorem Same.seqL {K : PySem.W.Frag} {H H' : Hp} {a : Addr} {xs : List V} (e : Same H H') (h : SqL K H a xs) : SqL K H' a xs := by
  rcases h with (h | ⟨o, h⟩) | h
  · exact .inl (.inl (e _ _ h))
  · exact .inl (.inr ⟨o, e _ _ h⟩)
  · exact .inr h
section
variable {X : Cx} {σ : L2.St} {H : Hp} {pos p : Pos} {k j : Nat} {a e : Expr} {es : List Expr} {Q : VK} {x : S}
theorem we_lenS (hm : X.mg "len" = none) (h : WE X a σ H fun v H1 => ∃ (l : Addr) (xs : List V), v = .ref l ∧ SqL X.K H1 l xs ∧ Q (.int xs.length) H1) (hg : Gl X "len" := by rfl) (hs : starEach [a] X.env = (false, eval a X.env) :: starEach [] X.env := by rfl) : WE X (.Call (.Name "len" p) [a] [] pos) σ H Q :=
  we_of (pe_callB call_len_seq hg hm PySem.boot_len pa_w (he := hs)) (wa_cons (h.mono fun v H1 ⟨l, xs, e, h1, q⟩ => wa_nil ⟨l, xs, by rw [e], Or.inl h1, q⟩) hs)
theorem cal_G {P : Program} {w : World} {K : PySem.W.Frag} {mg : Str → Option Value} {base : Heap} {R : Hp → List D → D → Prop} (c : Cal P w K mg base k x (spP K R)) : Cal P w K mg base k x (spG fun vs H Q => ∃ ds d, R H ds d ∧ DatAll K H vs ds ∧ ∀ v H', Same H H' → Dat K H' v d → Q v H') := c.imp fun vs H Q E h => h
end
section
variable {P : Program} {w : World} {K : PySem.W.Frag} {mg : Str → Option Value} {base : Heap} {f : Addr} {fd : FuncData} {k : Nat}
abbrev s_law_box : Stmt := top 60
theorem sc_law_box : FnScope ["_law_script", "_law_k", "_law_cell", "_law_seed"] ["_law_script", "_law_k"] (defScope s_law_box) := ⟨rfl, rfl, rfl, by decide +kernel, rfl, by decide +kernel, by decide +kernel⟩
def QBox (K : PySem.W.Frag) : List V → Hp → VK → Prop := fun vs H Q => ∃ (a : Addr) (ns : List Int) (i : Nat), vs = [.ref a, .int (i : Int)] ∧ SqL K H a (ns.map V.int) ∧ i ≤ 64 ∧ ∀ (p : Addr) (H' : Hp), H p = none → Same H H' → BAt H' p 0 → Q (.ref p) H'
theorem ok_law_box (F : Fun K "_law_box" "_law_box" s_law_box f fd) (T : Gb mg) : FnOk P w K mg base CX0 (k + 1) f fd ["_law_script", "_law_k"] (spG (QBox K)) := by
  refine fn_W F sc_law_box (fun vs H Q h => ?_) (fun cdv A outer s H E vs Q oo h => ?_)
  · obtain ⟨a, ns, i, rfl, _⟩ := h
    rfl
  · obtain ⟨a, ns, i, rfl, hS, hi, hQ⟩ := h
    refine ws_set 2 oo (WE.mono (Q := fun v H' => ∃ z : Int, v = .int z ∧ Same H H') (we_ifx (wt_of (pt_cmpR op_lt pe_w pe_w rfl) (we_var 1 rfl (we_lenS T.len (we_var 0 rfl ⟨a, _, rfl, hS, (i : Int), _, rfl, rfl, _, rfl, ?_⟩))))) fun v H1 ⟨z, e, s1⟩ => ?_)
    · by_cases hlt : (i : Int) < ((ns.map V.int).length : Int)
      · rw [decide_eq_true hlt]
        have hl : i < ns.length := by rw [List.length_map] at hlt; omega
        have hx : (ns.map V.int)[i]? = some (.int ns[i]) := by rw [List.getElem?_map, List.getElem?_eq_getElem hl]; rfl
        exact iteT (we_ix (we_var 0 rfl (we_var 1 rfl (.inl ⟨a, _, (i : Int), _, rfl, rfl, hS, atI_nat hx, _, rfl, Same.refl _⟩))))
      · rw [decide_eq_false hlt]
        exact iteF (we_int ⟨_, rfl, Same.refl _⟩)
    subst e
    have o1 := Int.emod_nonneg z (show (2305843009213693921 : Int) ≠ 0 by decide)
    have o2 := Int.emod_lt_of_pos z (show (0 : Int) < 2305843009213693921 by decide)
    refine ws_set 3 oo (we_ee (ee_op (od_modI (j := 2147483563) (by decide)) (ee_int1 T.int (ee_op (od_mulI (i := z % 2305843009213693921 + 41177 * (i : Int) + 53) (j := 38923) (.inr (by decide))) (ee_op (od_addI (i := z % 2305843009213693921 + 41177 * (i : Int)) (j := 53)) (ee_op (od_addI (i := z % 2305843009213693921) (j := 41177 * (i : Int))) (ee_op (od_modI (i := z) (j := 2305843009213693921) (by decide)) (ee_int1 T.int (ee_var 2 rfl)) ee_int) (ee_op (od_mulI (i := 41177) (j := (i : Int)) (.inl (by decide))) ee_int (ee_var 1 rfl))) ee_int) ee_int)) ee_int) (ρ := [none, some (.int (i : Int)), some (.int z)]) (.skip (.cons (.int _) (.cons (.int _) .nil))) fun v2 H2 s2 dv2 => ?_)
    have p1 := Int.emod_nonneg ((z % 2305843009213693921 + 41177 * (i : Int) + 53) * 38923) (show (2147483563 : Int) ≠ 0 by decide)
    have p2 := Int.emod_lt_of_pos ((z % 2305843009213693921 + 41177 * (i : Int) + 53) * 38923) (show (0 : Int) < 2147483563 by decide)
    generalize (z % 2305843009213693921 + 41177 * (i : Int) + 53) * 38923 % 2147483563 = sd at p1 p2 dv2
    cases dv2
    have habs : (0 : Int) ≤ (if z < 0 then -z else z) := by split <;> omega
    generalize hab : (if z < 0 then -z else z) = az at habs
    refine ws_ret (we_of (pe_lst pa_w) (wa_ea (ds := [.int (az * (if decide ((10 : Int) ^ Int.toNat 18 ≤ az) = true then 1 else 0)), .int sd, .int 0]) (eac (ee_op (od_mulI (by split <;> exact .inr (by decide))) (ee_is (by rw [hab]) (ee_abs T.abs (ee_var 2 rfl))) (ee_intB T.int (ee_cmp od_ge (ee_is (by rw [hab]) (ee_abs T.abs (ee_var 2 rfl))) (ee_op (od_powI (i := 10) (j := 18) ⟨by decide, by decide, by decide⟩) ee_int ee_int)))) (eac (ee_var 3 rfl) (eac ee_int ea_nil))) (ρ := [none, none, some (.int z), some (.int sd)]) (.skip (.skip (.cons (.int _) (.cons (.int _) .nil)))) fun vs' H3 s3 dvs => ?_))
    cases dvs with
    | cons d1 dvs =>
      cases dvs with
      | cons d2 dvs =>
        cases dvs with
        | cons d3 dvs =>
          cases dvs
          cases d1
          cases d2
          cases d3
          refine ⟨by show 3 ≤ sizeLine; decide, fun p hp => hQ p _ (((s1.trans s2).trans s3).free hp) (((s1.trans s2).trans s3).trans (Same.new hp)) ⟨_, upd_same, _, _, _, rfl, ?_, p1, p2, Int.le_refl _, Int.le_refl _⟩⟩
          split
          · rw [Int.mul_one]; exact habs
          · rw [Int.mul_zero]; exact Int.le_refl _
end

/-! ### by hand -/
def G0 : ProgD := ⟨[⟨sMain, [], [], [("f", "", false), ("g", "", true)]⟩, ⟨"b", [], [("f", "")], []⟩, ⟨"a", [], [("g", "")], []⟩], [], []⟩
def ws0 : List WantD := [⟨sMain, 0, [sBound, "b", ""]⟩, ⟨sMain, 1, [sBound, "a", ""]⟩]
theorem wf0 : WF G0 where
  nd := by decide +kernel
  ne := by simp [G0]
  needs := fun l hl n hn => by
    have : l.needs = [] := by
      simp only [G0, List.mem_cons, List.not_mem_nil, or_false] at hl
      rcases hl with rfl | rfl | rfl <;> rfl
    rw [this] at hn
    cases hn
  doors := fun d hd => by cases hd
theorem sz0 : SZ G0 where
  libs := by decide
  needs := fun l hl => by
    simp only [G0, List.mem_cons, List.not_mem_nil, or_false] at hl
    rcases hl with rfl | rfl | rfl <;> decide
  defs := fun l hl => by
    simp only [G0, List.mem_cons, List.not_mem_nil, or_false] at hl
    rcases hl with rfl | rfl | rfl <;> decide
  uses := fun l hl => by
    simp only [G0, List.mem_cons, List.not_mem_nil, or_false] at hl
    rcases hl with rfl | rfl | rfl <;> decide
  doors := by decide
  pre := by decide
theorem pt0 : PT0 G0 where
  wf := wf0
  sz := sz0
  wk := { wf := wf0, sz := sz0, libs := by decide, doors := by decide, pre := rfl }
theorem wok0 : ∀ w ∈ ws0, WOk G0 w := fun w hw => by
  have h0 : libOf G0 sMain = some ⟨sMain, [], [], [("f", "", false), ("g", "", true)]⟩ := libOf_own wf0 (l := ⟨sMain, [], [], [("f", "", false), ("g", "", true)]⟩) List.mem_cons_self
  simp only [ws0, List.mem_cons, List.not_mem_nil, or_false] at hw
  rcases hw with rfl | rfl
  · exact ⟨⟨_, _, h0, rfl⟩, .inl ⟨_, _, rfl⟩⟩
  · exact ⟨⟨_, _, h0, rfl⟩, .inl ⟨_, _, rfl⟩⟩
theorem others0 : others G0 = [("a" : S), "b"] := (sortS_of (xs := [("b" : S), "a"]) (ys := [("a" : S), "b"]) (List.Perm.swap _ _ _) (by decide +kernel)).symm
theorem least0 : leastM G0 ws0 = some [("a" : S), "b"] := by
  unfold leastM possibleM goodM namesIn
  simp only [others0]
  decide +kernel
theorem names0 : ∀ n ∈ others G0, isNameM n = true := by
  rw [others0]
  decide +kernel
end K74

set_option Elab.async false
set_option linter.all false
set_option maxRecDepth 100000
set_option maxHeartbeats 4000000
/-! K74.KHB: _law_right, law. -/
namespace K74
open PySem PySem.Spec PyProof.Rows L2
section
variable {P : Program} {w : World} {K : PySem.W.Frag} {mg : Str → Option Value} {base : Heap} {f : Addr} {fd : FuncData} {k : Nat}
abbrev s_law_right : Stmt := top 73
theorem sc_law_right : FnScope ["_law_box_here", "_law_libs", "_law_wishes_here", "_law_prog"] ["_law_box_here"] (defScope s_law_right) := ⟨rfl, rfl, rfl, by decide +kernel, rfl, by decide +kernel, by decide +kernel⟩
def QRight : List V → Hp → VK → Prop := fun vs H Q => ∃ (b : Addr) (m : Nat), vs = [.ref b] ∧ BAt H b m ∧ m + 2000 ≤ 1000000 ∧ ∀ H', BStep H b (m + 2000) H' → Q (.bl true) H'
def dLibs2 : List D := [.tup [.str "main", .tup [], .tup [], .tup [.tup [.str "f", .str "", .bl false], .tup [.str "g", .str "", .bl true]]], .tup [.str "b", .tup [], .tup [.tup [.str "f", .str ""]], .tup []]]
def dLib3 : List D := [.tup [.str "a", .tup [], .tup [.tup [.str "g", .str ""]], .tup []]]
def dWs : D := .tup [.tup [.str "main", .int 0, .tup [.str "bound", .str "b", .str ""]], .tup [.str "main", .int 1, .tup [.str "bound", .str "a", .str ""]]]
theorem eG0 : D.tup [.tup (dLibs2 ++ dLib3), .tup [], .tup []] = encProg G0 := rfl
theorem eW0 : dWs = .tup (ws0.map encWant) := rfl
theorem ok_law_right {kt kp kw kr kl : Nat} (F : Fun K "_law_right" "_law_right" s_law_right f fd) (hk : kt ≤ k ∧ kp ≤ k ∧ kw ≤ k ∧ kr ≤ k ∧ kl ≤ k) (c_take : Cal P w K mg base kt "_law_take" (spG QTake)) (c_prog : Cal P w K mg base kp "_law_program" (spG (QProg K))) (c_wishes : Cal P w K mg base kw "_law_wishes" (spG (QWishes K))) (c_right : Cal P w K mg base kr "_law_prog_right" (spP K RRight)) (c_least : Cal P w K mg base kl "least_preload" (spP K RLeast)) : FnOk P w K mg base CX0 (k + 1) f fd ["_law_box_here"] (spG QRight) := by
  refine fn_W F sc_law_right (fun vs H Q h => ?_) (fun cdv A outer s H E vs Q oo h => ?_)
  · obtain ⟨b, m, rfl, _⟩ := h
    rfl
  · obtain ⟨b, m, rfl, hb, hm, hQ⟩ := h
    refine ws_set 1 oo (we_ee (ee_is (d' := .tup dLibs2) rfl (ee_tup (eac (ee_tup (eac ee_str (eac (ee_tup ea_nil) (eac (ee_tup ea_nil) (eac (ee_tup (eac (ee_tup (eac ee_str (eac ee_str (eac ee_bl ea_nil)))) (eac (ee_tup (eac ee_str (eac ee_str (eac ee_bl ea_nil)))) ea_nil))) ea_nil))))) (eac (ee_tup (eac ee_str (eac (ee_tup ea_nil) (eac (ee_tup (eac (ee_tup (eac ee_str (eac ee_str ea_nil))) ea_nil)) (eac (ee_tup ea_nil) ea_nil))))) ea_nil)))) (ρ := []) .nil fun v1 H1 s1 dv1 => ?_)
    refine ws_set 1 oo (we_ee (ee_op (od_addT (xs := dLibs2) (ys := dLib3) (by decide)) (ee_var 1 rfl) (ee_is (d' := .tup dLib3) rfl (ee_tup (eac (ee_tup (eac ee_str (eac (ee_tup ea_nil) (eac (ee_tup (eac (ee_tup (eac ee_str (eac ee_str ea_nil))) ea_nil)) (eac (ee_tup ea_nil) ea_nil))))) ea_nil)))) (ρ := [none, some (.tup dLibs2)]) (.skip (.cons dv1 .nil)) fun v2 H2 s2 dv2 => ?_)
    refine ws_set 2 oo (we_ee (ee_is (d' := dWs) rfl (ee_tup (eac (ee_tup (eac ee_str (eac ee_int (eac (ee_tup (eac ee_str (eac ee_str (eac ee_str ea_nil)))) ea_nil)))) (eac (ee_tup (eac ee_str (eac ee_int (eac (ee_tup (eac ee_str (eac ee_str (eac ee_str ea_nil)))) ea_nil)))) ea_nil)))) (ρ := []) .nil fun v3 H3 s3 dv3 => ?_)
    have dl3 : Dat K H3 v2 (.tup (dLibs2 ++ dLib3)) := dv2.mono s3
    have hol0 : (others G0).length ≤ 4 := by rw [others0]; decide
    have s03 := (s1.trans s2).trans s3
    have el3 : EL K H3 [none, some (.tup (dLibs2 ++ dLib3)), some dWs] [some (.ref b), some v2, some v3, none] := .skip (.cons dl3 (.cons dv3 .nil))
    refine ws_ifE (z := false) (et_is ?_ (et_or (et_not (et_val (ee_call c_right oo hk.2.2.2.1 (d := .bl true) (ea_cons (ee_tup (ds := [.tup (dLibs2 ++ dLib3), .tup [], .tup []]) (eac (ee_var 1 rfl) (eac (ee_tup ea_nil) (eac (ee_tup ea_nil) ea_nil)))) (ea_cons (ee_var 2 rfl) ea_nil)) (fun _ _ => ⟨G0, ws0, rfl, rfl, pt0, hol0, wok0, by decide, names0⟩)))) fun _ => (et_cmp (od_neD oo (da := encLine [("a" : S), "b"]) (db := .tup [.str "a", .str "b"]) rfl (by decide) (by decide +kernel) (by decide +kernel) (by decide +kernel)) (ee_call c_least oo hk.2.2.2.2 (ea_cons (ee_tup (ds := [.tup (dLibs2 ++ dLib3), .tup [], .tup []]) (eac (ee_var 1 rfl) (eac (ee_tup ea_nil) (eac (ee_tup ea_nil) ea_nil)))) (ea_cons (ee_var 2 rfl) ea_nil)) (fun _ _ => ⟨G0, ws0, rfl, by rw [least0]; rfl, pt0, hol0, wok0, by decide⟩)) (ee_tup (eac ee_str (eac ee_str ea_nil)))))) el3 (fun hz => by cases hz) (fun _ H4 s4 => ws_nil ?_)
    · decide +kernel
    have s04 := s03.trans s4
    refine ws_set 3 oo (we_cal c_prog oo hk.2.1 (wa_cons (we_var 0 rfl (wa_cons (we_of (pe_op op_add pe_w pe_w) (we_int (we_cal c_take oo hk.1 (wa_cons (we_var 0 rfl (wa_cons (we_int (wa_nil ⟨b, m, 2, rfl, hb.grow s04, by omega, by omega, by omega, fun r H5 hr st5 => ⟨2, (r : Int), rfl, rfl, wa_cons (we_int (wa_nil ⟨b, m + 1, 2 + r, by push_cast; rfl, st5.at_, by omega, by omega, by omega, fun G v6 H6 st6 dv6 gg => ?_⟩))⟩⟩))))))))))))
    have st06 : BStep H b (m + 1001) H6 := (BStep.before s04 (st5.trans st6)).mono (by omega)
    refine ws_ret (we_cal (cal_G c_right) oo hk.2.2.2.1 (wa_cons (we_var 3 rfl (wa_cons (we_cal c_wishes oo hk.2.2.1 (wa_cons (we_var 0 rfl (wa_cons (we_var 3 rfl (wa_cons (we_int (wa_nil ⟨b, m + 1001, v6, G, rfl, st06.at_, by omega, dv6, gg, fun ws v7 H7 st7 dv7 hws hwl => wa_nil ⟨_, _, ⟨G, ws, rfl, rfl, gg.pt, gg.others, hws, hwl, gg.isName⟩, .cons (st7.dat st06.at_ dv6 imm_prog) (.cons dv7 .nil), fun v8 H8 s8 dv8 => ?_⟩⟩))))))))))))
    cases dv8
    exact hQ H8 (((st06.trans st7).more s8).mono (by omega))

abbrev s_law : Stmt := top 74
theorem sc_law : FnScope ["_law_script", "_law_k", "_law_box_here", "_law_lap"] ["_law_script"] (defScope s_law) := ⟨rfl, rfl, rfl, by decide +kernel, rfl, by decide +kernel, by decide +kernel⟩
def QLaw (K : PySem.W.Frag) : List V → Hp → VK → Prop := fun vs H Q => ∃ (a : Addr) (ns : List Int), vs = [.ref a] ∧ SqL K H a (ns.map V.int) ∧ ns.length ≤ 63 ∧ ∀ H', Q (.bl true) H'
theorem ok_law {kb kr : Nat} (F : Fun K "law" "law" s_law f fd) (T : Gb mg) (hk : kb ≤ k ∧ kr ≤ k) (c_box : Cal P w K mg base kb "_law_box" (spG (QBox K))) (c_right : Cal P w K mg base kr "_law_right" (spG QRight)) : FnOk P w K mg base CX0 (k + 1) f fd ["_law_script"] (spG (QLaw K)) := by
  refine fn_W F sc_law (fun vs H Q h => ?_) (fun cdv A outer s H E vs Q oo h => ?_)
  · obtain ⟨a, ns, rfl, _⟩ := h
    rfl
  · obtain ⟨a, ns, rfl, hS, hl, hQ⟩ := h
    let Pv : Nat → L2.St → Hp → Prop := fun i σ H' => ∃ (x1 x2 : Option V), σ = [some (.ref a), x1, x2, none] ∧ Same H H'
    have hn : ∃ n : Nat, (1 : Int) + (if (((ns.map V.int).length : Nat) : Int) < 1 then (((ns.map V.int).length : Nat) : Int) else 1) = (n : Int) ∧ n ≤ 2 := by
      split
      · exact ⟨1 + (ns.map V.int).length, by push_cast; rfl, by omega⟩
      · exact ⟨2, by omega, by omega⟩
    obtain ⟨n, hn1, hn2⟩ := hn
    refine ws_forR oo PassesOwn.never T.range (we_of (pe_op op_add pe_w pe_w) (we_int (we_of (pe_callB (call_min2 oo.calm) rfl T.min (by decide +kernel) pa_w (he := rfl) (hpl := rfl)) (wa_cons (we_int (wa_cons (we_lenS T.len (we_var 0 rfl ⟨a, _, rfl, hS, wa_nil ⟨1, _, rfl, 1, _, rfl, rfl, n, Pv, congrArg V.int hn1, by omega, ⟨none, none, rfl, Same.refl _⟩, ?_, ?_⟩⟩)))))))) 
    · rintro i σ H1 hi ⟨x1, x2, rfl, s1⟩
      refine wg_name 1 oo ?_
      refine ws_set 2 oo (we_cal c_box oo hk.1 (wa_cons (we_var 0 rfl (wa_cons (we_var 1 rfl (wa_nil ⟨a, ns, i, rfl, K74.Same.seqL s1 hS, by omega, fun b H2 hb s2 hbat => ?_⟩))))))
      have hb0 : H b = none := s1.free hb
      have s02 := s1.trans s2
      refine ws_ifM (fun σ' H' => σ' = [some (.ref a), some (.int (i : Nat)), some (.ref b), none] ∧ Same H H') (wt_of (pt_not (pt_val pe_w (fun _ => rfl))) (we_all oo T.all (we_lcR [("_law_lap", 3)] oo (blkOk_by rfl) T.range (we_int ⟨1, rfl, by decide, fun l hl => ⟨fun j H' => BStep H2 b (2000 * j) H' ∧ H' l = some (.lst (List.replicate j (V.bl true))), ⟨(BStep.grow hbat (Same.refl _)).put hl (hbat.ne hl), upd_same⟩, ?_, ?_⟩⟩)))) ?_
      · rintro j H3 hj ⟨st3, h3⟩
        have hj0 : j = 0 := by omega
        subst hj0
        intro bs bH bC bcl bfp
        refine wg_name 3 oo.blk ⟨rfl, ?_⟩
        intro bs bH bC bcl bfp
        refine wts_nil (iteT ?_)
        intro bs bH bC bcl bfp
        refine we_cal c_right oo.blk hk.2 (wa_cons (we_var 2 rfl (wa_nil ⟨b, 0, rfl, st3.at_, by decide, fun H4 st4 => ⟨_, st4.at (hbat.ne hl) h3, by decide, ((st3.trans st4).put hl (hbat.ne hl)), upd_same⟩⟩)))
      · rintro H3 ⟨st3, h3⟩
        refine ⟨l, [true], rfl, h3, _, rfl, iteF (ws_nil ⟨rfl, ?_⟩)⟩
        exact (hide_of s02 hb0).trans (st3.same.trans (hide_same _ _))
      · rintro σ' H3 ⟨rfl, s3⟩
        exact ws_nil ⟨_, _, rfl, s3⟩
    · rintro σ H1 ⟨x1, x2, rfl, s1⟩
      exact ws_ret (we_ee ee_bl (ρ := []) .nil fun v H' s' dv => by
        cases dv
        exact hQ H')
end
end K74

set_option Elab.async false
set_option linter.all false
set_option maxRecDepth 100000
set_option maxHeartbeats 4000000
/-! K74.KZ: the facts, gathered; the law from them. -/
namespace K74
open PySem PySem.Spec PyProof.Rows L2
section
variable {P : Program} {w : World} {K : PySem.W.Frag} {mg : Str → Option Value} {base : Heap} {h : Heap} {k : Nat} {C : Addr} {x m qual : S} {st : Stmt} {ps : List S} {sp : Sp}
theorem DF.cal (d : DF K mg x st ps) (q : ∀ f fd, Fun K x x st f fd → FnOk P w K mg base CX0 k f fd ps sp) : Cal P w K mg base k x sp := by
  obtain ⟨f, fd, F, g, b⟩ := d.ex
  exact ⟨f, fd, ps, q f fd F, g, F.kp, b⟩
theorem MF.met (d : MF K C m qual st ps) (c : Cls K C) (q : ∀ f fd, Fun K m qual st f fd → FnOk P w K mg base CX0 k f fd ps sp) : Met P w K mg base k C m sp := by
  obtain ⟨f, fd, F, g, b⟩ := d.ex
  exact ⟨f, fd, ps, c, g, q f fd F, b⟩
theorem IF.mak (d : IF K C qual st ps) (g : mg x = some (.ref C)) (q : ∀ f fd, Fun K "__init__" qual st f fd → FnOk P w K mg base CX0 k f fd ps sp) : Mak P w K mg base k x C sp := by
  obtain ⟨f, fd, F, M, b⟩ := d.ex
  exact ⟨f, fd, ps, M, q f fd F, g, b⟩
theorem DD.cal (d : DD K mg x st ps) (q : ∀ f fd, FunD K x x (defArgs st) (defBody st) (defScope st) [.non] [] f fd → FnOk P w K mg base CX0 k f fd ps sp) : CalD P w K mg base k x [.non] sp := by
  obtain ⟨f, fd, ds, F, g, b, v⟩ := d.ex
  exact ⟨f, fd, ps, ds, q f fd F, g, F.kp, b, v⟩
theorem gc_str {s : S} (a : ∃ t, mg x = some (.str s t)) : Gc mg K x (.str s) := by
  obtain ⟨t, a⟩ := a
  exact ⟨_, .str s, a, ⟨t, rfl⟩, fun H => .str s⟩
theorem gc_int {i : Int} (a : ∃ t, mg x = some (.int i t)) : Gc mg K x (.int i) := by
  obtain ⟨t, a⟩ := a
  exact ⟨_, .int i, a, ⟨t, rfl⟩, fun H => .int i⟩
theorem gc_tup1 {s : S} (a : TupS K mg x s) : Gc mg K x (encAns [s]) := by
  obtain ⟨p, od, t, n, sl, a, l⟩ := a
  exact ⟨_, .ref p, a, rfl, fun H => .tup (vs := [.str s]) (.inr ⟨_, #[.str s t], n, l, rfl, rfl, by show 1 ≤ sizeLine; decide, .cons ⟨t, rfl⟩ .nil⟩) (.cons (.str s) .nil)⟩
theorem isg3 (g : mg "Ground" = some (.ref C)) (c : Cls K C) (i : IsG K C) : IsiG mg K C :=
  ⟨g, i.tup, by unfold PySem.W.kitOne; rw [if_pos]; exact beq_self_eq_true _, fun H a dx fs e => .base (.ins e c i.ha i.hn i.htk i.hm)⟩
end
/-- all that the walks ask of the module -/
structure Facts (K : PySem.W.Frag) (mg : Str → Option Value) (CP CG CT : Addr) : Prop where
  T : Gb mg
  C : Gk mg K
  cp : ClsP K CP
  cg : ClsG K CG
  ct : ClsT K CT
  ig : IsiG mg K CG
  gP : mg "Process" = some (.ref CP)
  gG : mg "Ground" = some (.ref CG)
  gT : mg "Trial" = some (.ref CT)
  iP : IF K CP "Process.__init__" s_Process_init ["self", "program"]
  iG : IF K CG "Ground.__init__" s_Ground_init ["self", "program"]
  iT : IF K CT "Trial.__init__" s_Trial_init ["self", "program"]
  d_walk : DD K mg "walk" s_walk ["program", "doors"]
  d_serves : DF K mg "serves" s_serves ["definition", "use"]
  d_version_of : DF K mg "version_of" s_version_of ["lib", "use"]
  d_lib_of : DF K mg "lib_of" s_lib_of ["program", "name"]
  d_lib_at : DF K mg "lib_at" s_lib_at ["program", "name"]
  d_use_at : DF K mg "use_at" s_use_at ["program", "name", "number"]
  d_main_of : DF K mg "main_of" s_main_of ["program"]
  d_as_tuples : DF K mg "as_tuples" s_as_tuples ["thing"]
  d_row : DF K mg "row" s_row ["program", "names"]
  d_first_row : DF K mg "first_row" s_first_row ["program"]
  d_door_row : DF K mg "door_row" s_door_row ["program", "number"]
  d_others_of : DF K mg "others_of" s_others_of ["program"]
  d_with_preload : DF K mg "with_preload" s_with_preload ["program", "preload"]
  d_server : DF K mg "server" s_server ["program", "line", "use"]
  d_doors_of : DF K mg "doors_of" s_doors_of ["program", "name"]
  d_is_name : DF K mg "is_name" s_is_name ["thing"]
  d_are_names : DF K mg "are_names" s_are_names ["thing"]
  d_is_preload : DF K mg "is_preload" s_is_preload ["program", "thing"]
  d_looked : DF K mg "looked" s_looked ["program", "wanted"]
  d_rows_of_names : DF K mg "rows_of_names" s_rows_of_names ["names", "many"]
  d_names_in : DF K mg "names_in" s_names_in ["program", "wanted"]
  d_rows_to_public : DF K mg "rows_to_public" s_rows_to_public ["program"]
  d_next_steps : DF K mg "next_steps" s_next_steps ["process", "doors"]
  d_first_runs : DF K mg "first_runs" s_first_runs ["moments", "name", "i"]
  d_bindings : DF K mg "bindings" s_bindings ["program", "name", "i"]
  d_many_preloads : DF K mg "many_preloads" s_many_preloads ["program", "wanted", "many"]
  d_least_preload : DF K mg "least_preload" s_least_preload ["program", "wanted"]
  d_shows_preload : DF K mg "shows_preload" s_shows_preload ["program", "wanted", "thing"]
  d_law_take : DF K mg "_law_take" s_law_take ["_law_box_here", "_law_below"]
  d_law_of : DF K mg "_law_of" s_law_of ["_law_box_here", "_law_some"]
  d_law_picked : DF K mg "_law_picked" s_law_picked ["_law_box_here", "_law_pool", "_law_most"]
  d_law_lib : DF K mg "_law_lib" s_law_lib ["_law_prog", "_law_who"]
  d_law_gives : DF K mg "_law_gives" s_law_gives ["_law_prog", "_law_who", "_law_use"]
  d_law_calls : DF K mg "_law_calls" s_law_calls ["_law_prog"]
  d_law_rows : DF K mg "_law_rows" s_law_rows ["_law_pool", "_law_size"]
  d_law_others : DF K mg "_law_others" s_law_others ["_law_prog"]
  d_law_prog_right : DF K mg "_law_prog_right" s_law_prog_right ["_law_prog", "_law_wishes_here"]
  d_law_program : DF K mg "_law_program" s_law_program ["_law_box_here", "_law_most", "_law_doors_so"]
  d_law_wish : DF K mg "_law_wish" s_law_wish ["_law_box_here", "_law_prog"]
  d_law_wishes : DF K mg "_law_wishes" s_law_wishes ["_law_box_here", "_law_prog", "_law_most"]
  d_law_box : DF K mg "_law_box" s_law_box ["_law_script", "_law_k"]
  d_law_right : DF K mg "_law_right" s_law_right ["_law_box_here"]
  d_law : DF K mg "law" s_law ["_law_script"]
  m_is_there : MF K CP "is_there" "Process.is_there" s_is_there ["self", "name"]
  m_look_there : MF K CP "look_there" "Process.look_there" s_look_there ["self", "name"]
  m_counts : MF K CP "counts" "Process.counts" s_counts ["self"]
  m_opened : MF K CP "opened" "Process.opened" s_opened ["self"]
  m_deep : MF K CP "deep" "Process.deep" s_deep ["self"]
  m_base : MF K CP "base" "Process.base" s_base ["self"]
  m_look_door : MF K CP "look_door" "Process.look_door" s_look_door ["self", "k"]
  m_looks : MF K CP "looks" "Process.looks" s_looks ["self", "name"]
  m_found : MF K CP "found" "Process.found" s_found ["self", "name", "i"]
  m_all_here : MF K CP "all_here" "Process.all_here" s_all_here ["self"]
  m_twin : MF K CP "twin" "Process.twin" s_twin ["self"]
  m_go : MF K CP "go" "Process.go" s_go ["self"]
  m_come : MF K CP "come" "Process.come" s_come ["self", "k"]
  m_open_door : MF K CP "open_door" "Process.open_door" s_open_door ["self", "k"]
  m_close_door : MF K CP "close_door" "Process.close_door" s_close_door ["self", "k"]
  m_do : MF K CP "do" "Process.do" s_do ["self", "step"]
  m_told_alone : MF K CT "told_alone" "Trial.told_alone" s_told_alone ["self", "name", "i"]
  m_told_inside : MF K CT "told_inside" "Trial.told_inside" s_told_inside ["self", "first", "use"]
  m_told_outside : MF K CT "told_outside" "Trial.told_outside" s_told_outside ["self", "first", "name", "i", "use"]
  m_gives : MF K CT "gives" "Trial.gives" s_gives ["self", "preload", "want"]
  m_Trial_gives_all : MF K CT "gives_all" "Trial.gives_all" s_Trial_gives_all ["self", "preload", "wanted"]
  m_Trial_is_possible : MF K CT "is_possible" "Trial.is_possible" s_Trial_is_possible ["self", "wanted"]

theorem Raw.facts {K : PySem.W.Frag} {mg : Str → Option Value} {CP CG CT : Addr} (r : Raw K mg CP CG CT) : Facts K mg CP CG CT :=
  ⟨⟨r.n_len, r.n_list, r.n_tuple, r.n_all, r.n_any, r.n_sum, r.n_sorted, r.n_min, r.n_range, r.n_isinstance, r.n_str, r.n_set, r.n_enumerate, r.n_dict, r.n_abs, r.n_int⟩, ⟨gc_str r.k_LETTERS, gc_int r.k_MOST_LETTERS, gc_str r.k_GLOBAL, gc_str r.k_DEEP, gc_str r.k_OPEN, gc_str r.k_CLOSE, gc_str r.k_CALL, gc_int r.k_MOST, gc_tup1 r.k_OPENED, gc_tup1 r.k_CLOSED, gc_tup1 r.k_FULL, gc_tup1 r.k_SHUT, gc_str r.k_BOUND, gc_tup1 r.k_NOBODY, gc_tup1 r.k_LOST, gc_tup1 r.k_TORN⟩, ⟨r.clP, r.aP_ground, r.aP_program, r.aP_first, r.aP_rows, r.aP_counts, r.aP_opened, r.aP_public, r.aP_deep, r.aP_slots, r.aP_here⟩, ⟨r.clG, r.aG_program, r.aG_first, r.aG_rows⟩, ⟨r.clT, r.aT_program, r.aT_walked⟩, isg3 r.gG r.clG r.ig, r.gP, r.gG, r.gT, r.iP, r.iG, r.iT, r.d_walk, r.d_serves, r.d_version_of, r.d_lib_of, r.d_lib_at, r.d_use_at, r.d_main_of, r.d_as_tuples, r.d_row, r.d_first_row, r.d_door_row, r.d_others_of, r.d_with_preload, r.d_server, r.d_doors_of, r.d_is_name, r.d_are_names, r.d_is_preload, r.d_looked, r.d_rows_of_names, r.d_names_in, r.d_rows_to_public, r.d_next_steps, r.d_first_runs, r.d_bindings, r.d_many_preloads, r.d_least_preload, r.d_shows_preload, r.d_law_take, r.d_law_of, r.d_law_picked, r.d_law_lib, r.d_law_gives, r.d_law_calls, r.d_law_rows, r.d_law_others, r.d_law_prog_right, r.d_law_program, r.d_law_wish, r.d_law_wishes, r.d_law_box, r.d_law_right, r.d_law, r.m_is_there, r.m_look_there, r.m_counts, r.m_opened, r.m_deep, r.m_base, r.m_look_door, r.m_looks, r.m_found, r.m_all_here, r.m_twin, r.m_go, r.m_come, r.m_open_door, r.m_close_door, r.m_do, r.m_told_alone, r.m_told_inside, r.m_told_outside, r.m_gives, r.m_Trial_gives_all, r.m_Trial_is_possible⟩
section
variable {P : Program} {w : World} {K : PySem.W.Frag} {mg : Str → Option Value} {base : Heap} {CP CG CT : Addr}
theorem Facts.law (F : Facts K mg CP CG CT) : ∀ f fd, Fun K "law" "law" s_law f fd → FnOk P w K mg base CX0 24 f fd ["_law_script"] (spG (QLaw K)) := by
  have T := F.T
  have C := F.C
  have cp := F.cp
  have cg := F.cg
  have ct := F.ct
  have c_serves : Cal P w K mg base 1 "serves" (spP K RServes) := F.d_serves.cal fun f fd q => ok_serves q
  have c_version_of : Cal P w K mg base 2 "version_of" (spP K RVersion) := F.d_version_of.cal fun f fd q => ok_version_of q T c_serves
  have c_lib_of : Cal P w K mg base 1 "lib_of" (spP K RLibOf) := F.d_lib_of.cal fun f fd q => ok_lib_of q T
  have c_lib_at : Cal P w K mg base 2 "lib_at" (spP K RLibAt) := F.d_lib_at.cal fun f fd q => ok_lib_at q c_lib_of
  have c_use_at : Cal P w K mg base 3 "use_at" (spP K RUseAt) := F.d_use_at.cal fun f fd q => ok_use_at q T c_lib_at
  have c_main_of : Cal P w K mg base 1 "main_of" (spP K RMainOf) := F.d_main_of.cal fun f fd q => ok_main_of q
  have asT : ∀ n, Cal P w K mg base (n + 1) "as_tuples" (spP K (RAs n)) := fun n => by
    induction n with
    | zero => exact F.d_as_tuples.cal fun f fd q => ok_as_tuples q T fun m e => by omega
    | succ n ih => exact F.d_as_tuples.cal fun f fd q => ok_as_tuples q T fun m e => (show m = n by omega) ▸ ih
  have c_as : Cal P w K mg base 6 "as_tuples" (spP K (RAs 5)) := asT 5
  have c_as3 : Cal P w K mg base 4 "as_tuples" (spP K (RAs 3)) := asT 3
  have c_row : Cal P w K mg base 7 "row" (spN K RRow) := F.d_row.cal fun f fd q => ok_row q T (by decide) c_as c_lib_of c_lib_at
  have c_first_row : Cal P w K mg base 8 "first_row" (spN K RFirstRow) := F.d_first_row.cal fun f fd q => ok_first_row q (by decide) c_as c_row
  have c_door_row : Cal P w K mg base 8 "door_row" (spN K RDoorRow) := F.d_door_row.cal fun f fd q => ok_door_row q (by decide) c_row
  have c_others_of : Cal P w K mg base 1 "others_of" (spN K ROthers) := F.d_others_of.cal fun f fd q => ok_others_of q T
  have c_with_preload : Cal P w K mg base 7 "with_preload" (spP K RWithPre) := F.d_with_preload.cal fun f fd q => ok_with_preload q T (by decide) c_as
  have c_server : Cal P w K mg base 3 "server" (spP K RServer) := F.d_server.cal fun f fd q => ok_server q C c_version_of c_lib_of
  have c_doors_of : Cal P w K mg base 9 "doors_of" (spN K RDoorsOf) := F.d_doors_of.cal fun f fd q => ok_doors_of q T (by decide) c_door_row
  have c_is_name : Cal P w K mg base 1 "is_name" (spP K RIsName) := F.d_is_name.cal fun f fd q => ok_is_name q T C
  have c_are_names : Cal P w K mg base 2 "are_names" (spP K RAreNames) := F.d_are_names.cal fun f fd q => ok_are_names q T c_is_name
  have c_is_preload : Cal P w K mg base 3 "is_preload" (spP K RIsPreload) := F.d_is_preload.cal fun f fd q => ok_is_preload q T c_are_names c_others_of
  have c_looked : Cal P w K mg base 7 "looked" (spP K RLooked) := F.d_looked.cal fun f fd q => ok_looked q (by decide) c_as c_as3 c_use_at
  have c_rows_of_names : Cal P w K mg base 1 "rows_of_names" (spN K RRowsOf) := F.d_rows_of_names.cal fun f fd q => ok_rows_of_names q T
  have c_names_in : Cal P w K mg base 2 "names_in" (spN K RNamesIn) := F.d_names_in.cal fun f fd q => ok_names_in q C c_others_of
  have c_rows_to_public : Cal P w K mg base 9 "rows_to_public" (spN K RRowsPub) := F.d_rows_to_public.cal fun f fd q => ok_rows_to_public q T C (by decide) c_door_row
  -- Ground, Process
  have mkG : Mak P w K mg base 9 "Ground" CG (spG (QGroundInit K CG)) := F.iG.mak F.gG fun f fd q => ok_Ground_init q cg T (by decide) c_as c_first_row c_door_row
  have m_all_here : Met P w K mg base 1 CP "all_here" (spG (QAllHere K CP)) := F.m_all_here.met cp.cls fun f fd q => ok_all_here q cp
  have mkP : Mak P w K mg base 11 "Process" CP (spG (QProcInit K CP CG)) := F.iP.mak F.gP fun f fd q => ok_Process_init q cp cg F.ig T (by decide) mkG m_all_here
  have m_is_there : Met P w K mg base 1 CP "is_there" (spP K (RIsThere CP)) := F.m_is_there.met cp.cls fun f fd q => ok_is_there q cp
  have m_look_there : Met P w K mg base 3 CP "look_there" (spP K (RLookThere K CP CG)) := F.m_look_there.met cp.cls fun f fd q => ok_look_there q cp c_lib_at m_is_there
  have m_counts : Met P w K mg base 1 CP "counts" (spP K (RCounts CP)) := F.m_counts.met cp.cls fun f fd q => ok_counts q cp T
  have m_opened : Met P w K mg base 1 CP "opened" (spP K (ROpened CP)) := F.m_opened.met cp.cls fun f fd q => ok_opened q cp T
  have m_deep : Met P w K mg base 1 CP "deep" (spP K (RDeep CP)) := F.m_deep.met cp.cls fun f fd q => ok_deep q cp T
  have m_base : Met P w K mg base 2 CP "base" (spP K (RBase CP)) := F.m_base.met cp.cls fun f fd q => ok_base q cp T m_deep
  have m_look_door : Met P w K mg base 1 CP "look_door" (spP K (RLookDoor CP)) := F.m_look_door.met cp.cls fun f fd q => ok_look_door q cp T
  have m_looks : Met P w K mg base 4 CP "looks" (spP K (RLooks K CP CG)) := F.m_looks.met cp.cls fun f fd q => ok_looks q cp T m_look_there
  have m_found : Met P w K mg base 5 CP "found" (spP K (RFound K CP CG)) := F.m_found.met cp.cls fun f fd q => ok_found q cp C c_use_at c_version_of c_lib_of m_looks
  have m_twin : Met P w K mg base 13 CP "twin" (spG (QTwin K CP CG)) := F.m_twin.met cp.cls fun f fd q => ok_twin q cp T (by decide) mkP
  have m_go : Met P w K mg base 2 CP "go" (spG (QGo CP)) := F.m_go.met cp.cls fun f fd q => ok_go q cp m_is_there
  have m_come : Met P w K mg base 2 CP "come" (spG (QCome K CP CG)) := F.m_come.met cp.cls fun f fd q => ok_come q cp C m_is_there m_all_here
  have m_open_door : Met P w K mg base 3 CP "open_door" (spG (QOpen K CP CG)) := F.m_open_door.met cp.cls fun f fd q => ok_open_door q cp C m_look_door m_come
  have m_close_door : Met P w K mg base 3 CP "close_door" (spG (QClose K CP CG)) := F.m_close_door.met cp.cls fun f fd q => ok_close_door q cp C m_look_door m_all_here m_go
  have m_do : Met P w K mg base 4 CP "do" (spG (QDo K CP CG)) := F.m_do.met cp.cls fun f fd q => ok_do q C m_open_door m_close_door
  have c_next_steps : Cal P w K mg base 2 "next_steps" (spN K (RNext CP)) := F.d_next_steps.cal fun f fd q => ok_next_steps q C m_opened
  have c_walk : CalD P w K mg base 14 "walk" [.non] (spG (QWalk K CP CG)) := F.d_walk.cal fun f fd q => ok_walk q cp T (by decide) mkP c_next_steps m_counts m_base m_twin m_do
  have c_first_runs : Cal P w K mg base 6 "first_runs" (spG (QFirst P w K CP CG)) := F.d_first_runs.cal fun f fd q => ok_first_runs q C m_is_there m_found
  have c_bindings : Cal P w K mg base 15 "bindings" (spG (QBind K)) := F.d_bindings.cal fun f fd q => ok_bindings q T (by decide) c_as c_use_at c_walk c_first_runs
  -- Trial
  have m_told_alone : Met P w K mg base 16 CT "told_alone" (spG (QAlone K CT)) := F.m_told_alone.met ct.cls fun f fd q => ok_told_alone q ct (by decide) c_bindings c_with_preload
  have m_told_inside : Met P w K mg base 10 CT "told_inside" (spP K (RToldIn K CT)) := F.m_told_inside.met ct.cls fun f fd q => ok_told_inside q ct C (by decide) c_server c_rows_to_public
  have m_told_outside : Met P w K mg base 17 CT "told_outside" (spG (QOutside K CT)) := F.m_told_outside.met ct.cls fun f fd q => ok_told_outside q ct C (by decide) c_server c_doors_of c_door_row m_told_alone
  have m_gives : Met P w K mg base 18 CT "gives" (spG (QGives K CT)) := F.m_gives.met ct.cls fun f fd q => ok_gives q ct T (by decide) c_use_at c_main_of c_row m_told_inside m_told_outside
  have m_gives_all : Met P w K mg base 19 CT "gives_all" (spG (QGivesAll K CT)) := F.m_Trial_gives_all.met ct.cls fun f fd q => ok_Trial_gives_all q ct T (by decide) m_gives
  have mkT : Mak P w K mg base 1 "Trial" CT (spG (QTrialInit K CT)) := F.iT.mak F.gT fun f fd q => ok_Trial_init q ct
  have m_is_possible : Met P w K mg base 20 CT "is_possible" (spG (QPossible K CT)) := F.m_Trial_is_possible.met ct.cls fun f fd q => ok_Trial_is_possible q ct T (by decide) c_names_in c_rows_of_names m_gives_all
  have c_many : Cal P w K mg base 20 "many_preloads" (spG (QMany K)) := F.d_many_preloads.cal fun f fd q => ok_many_preloads q T (by decide) c_looked mkT c_others_of c_rows_of_names m_gives_all
  have c_least : Cal P w K mg base 21 "least_preload" (spP K RLeast) := F.d_least_preload.cal fun f fd q => ok_least_preload q T (by decide) c_looked mkT c_others_of c_rows_of_names m_gives_all m_is_possible
  have c_shows : Cal P w K mg base 20 "shows_preload" (spP K RShows) := F.d_shows_preload.cal fun f fd q => ok_shows_preload q T (by decide) c_looked c_is_preload mkT m_gives_all
  -- the law's own
  have c_take : Cal P w K mg base 1 "_law_take" (spG QTake) := F.d_law_take.cal fun f fd q => ok_law_take q T
  have c_of : Cal P w K mg base 2 "_law_of" (spG QOf) := F.d_law_of.cal fun f fd q => ok_law_of q T (by decide) c_take
  have c_picked : Cal P w K mg base 2 "_law_picked" (spG QPick) := F.d_law_picked.cal fun f fd q => ok_law_picked q T (by decide) c_take
  have c_lib : Cal P w K mg base 1 "_law_lib" (spP K RLawLib) := F.d_law_lib.cal fun f fd q => ok_law_lib q
  have c_gives : Cal P w K mg base 2 "_law_gives" (spP K RLawGives) := F.d_law_gives.cal fun f fd q => ok_law_gives q (by decide) c_lib
  have c_calls : Cal P w K mg base 1 "_law_calls" (spP K RLawCalls) := F.d_law_calls.cal fun f fd q => ok_law_calls q T
  have c_rows : Cal P w K mg base 1 "_law_rows" (spP K RLawRows) := F.d_law_rows.cal fun f fd q => ok_law_rows q T
  have c_others : Cal P w K mg base 1 "_law_others" (spN K ROthers) := F.d_law_others.cal fun f fd q => ok_law_others q T
  have c_right : Cal P w K mg base 22 "_law_prog_right" (spP K RRight) := F.d_law_prog_right.cal fun f fd q => ok_law_prog_right q T (by decide) c_others c_many c_rows c_shows c_least
  have c_program : Cal P w K mg base 3 "_law_program" (spG (QProg K)) := F.d_law_program.cal fun f fd q => ok_law_program q T (by decide) c_take c_of c_picked
  have c_wish : Cal P w K mg base 3 "_law_wish" (spG (QWish K)) := F.d_law_wish.cal fun f fd q => ok_law_wish q T (by decide) c_take c_of c_calls c_lib c_gives
  have c_wishes : Cal P w K mg base 4 "_law_wishes" (spG (QWishes K)) := F.d_law_wishes.cal fun f fd q => ok_law_wishes q T (by decide) c_take c_wish
  have c_box : Cal P w K mg base 1 "_law_box" (spG (QBox K)) := F.d_law_box.cal fun f fd q => ok_law_box q T
  have c_lright : Cal P w K mg base 23 "_law_right" (spG QRight) := F.d_law_right.cal fun f fd q => ok_law_right q (by decide) c_take c_program c_wishes c_right c_least
  exact fun f fd q => ok_law q T (by decide) c_box c_lright
/-- what the head asks of the law's def -/
theorem Facts.end_ (F : Facts K mg CP CG CT) {fa : Addr} (hfa : mg ("law" : Str) = some (.ref fa)) : ∃ fd : FuncData, (∀ (s : Shared) (u : Value), BindsTo s fd ⟨[u], []⟩ [("_law_script", u)]) ∧ ∀ base : Heap, FnOk P w K mg base CX0 24 fa fd ["_law_script"] (spG (QLaw K)) := by
  obtain ⟨f, fd, q, g, b⟩ := F.d_law.ex
  have e := hfa.symm.trans g
  cases e
  obtain ⟨oc, od, kV, doc, pm, an, cdv, ct, osl, e1, e2, e3⟩ := q.ex
  refine ⟨fd, fun s u => by subst e1; exact .of_eq rfl, fun base => F.law _ _ q⟩
end
theorem keptAll {P : Program} : Kept P := fun w K mg CP CG CT fa r h => r.facts.end_ h
end K74
theorem PySem.Challenge.cw_latebound_k74_whole_names_of_the_wants_a_holds : PySem.Challenge.rw_latebound_k74_whole_names_of_the_wants_a.Holds :=
  K74.head (K74.lawWalk (l := PySem.Challenge.rw_latebound_k74_whole_names_of_the_wants_a) K74.keptAll rfl rfl rfl (fun w h Y => PySem.W.kIn_of Y) K74.raw)
