import PyProof.Rows.All
import Wide.All
import OpenK.AllK
import Wide.FinOn
import KE.KStateDown
import HandS.ForMost
import HandS.ForExc
import HandS.IsInst
import HandS.Defaults
import HandS.TupAny
import HandS.ExcCtx
import HandS.HeadEnd
import HandS.SortInts
import HandS.Style
import HandS.ExcIs
import HandS.HeadHook2
import HandS.ExcInit
import HandS.ExcField
import HandS.Conv
import HandS.Replace
import HandS.Dict
import HandS.Iter
import HandS.Text
import HandS.More
import HandS.Deep
import HandS.SortRule
import HandS.DictTup
import PyProof.DictMoreH
import HandS.HotCalls
import KE.KDictCopyH
import KE.KDictKeyed
import HandS.RaiseMore
import HandS.Sort
import HandS.SetFor
import HandS.Remove
import HandS.Base
import HandS.Call
import HandS.Ends
import HandS.Words
import HandS.WordsExc
import HandS.Head0
import HandS.Head1
import HandS.Head2
import HandS.HeadHook1
import HandS.HeadHook3
import HandS.HeadHook4
import PySem.Challenge.RW_mastword_k25_sleep_and_fog
set_option Elab.async false
set_option linter.all false
set_option maxRecDepth 100000
set_option maxHeartbeats 2000000
set_option maxHeartbeats 2000000
namespace TD
open PySem PySem.Spec PyProof.Rows L2
def oexB (K : PySem.W.Frag) (C : Addr) : Bool := (match K.lookup C with
  | some ⟨.type "type", _, .cls cd, sl⟩ => (match cd.mro, sl.toList with
    | .ref C' :: bm, [_, _, _, _, some (.builtin n), _] => decide (C' = C) && (decide (n = "ValueError.__new__") && (!cd.hasDel && (cd.hasDict && PySem.HandSPX.refsVE bm)))
    | _, _ => false)
  | _ => false) && (He.eqO (PySem.W.findIn K (.ref C) "__setattr__") (some (some (.builtin "object.__setattr__"))) && (decide (PySem.W.subIn K (.ref C) (.type "BaseException") = some true) && (decide (PySem.W.typeIn K (.ref C) = some (.type "type")) && PySem.W.keepIn K (.ref C))))
inductive XFa where
  | exC (x : Str)
  | kit (x y : Str) (b : Bool)
  | kiT (x : Str) (T : String) (b : Bool)
  | tup (x : Str) (vs : List He.Dv)
  | oex (x : Str)
  | xf (x f : Str)
  | exCs (xs : List Str)
  | kits (xs ys : List Str)
  | exms (xs : List Str) (y : Str)
def exCb (K : PySem.W.Frag) (x : Str) : Bool := He.eqO (PySem.W.findIn K (.ref (He.ga K x)) "__getattribute__") (some (some (.builtin "BaseException.__getattribute__"))) && (He.eqO (PySem.W.findIn K (.ref (He.ga K x)) "__getattr__") (some none) && (decide (PySem.W.subIn K (.ref (He.ga K x)) (.type "BaseException") = some true) && (PySem.W.hasDictIn K (He.ga K x) &&
      (He.eqO (PySem.W.findIn K (.ref (He.ga K x)) "__class__") (some (some (.builtin "object.__class__"))) && (He.eqO (PySem.W.specialIn K (.builtin "object.__class__") "__get__") (some (some (.builtin "getset_descriptor.__get__"))) && (decide (PySem.W.takesIn K (.builtin "object.__class__") = some true) && decide (PySem.W.mroIn K (He.ga K x) (.type "object") = some true)))))))
def XFa.ok (K : PySem.W.Frag) : XFa → Bool
  | .exC x => He.eqO (PySem.W.findIn K (.ref (He.ga K x)) "__getattribute__") (some (some (.builtin "BaseException.__getattribute__"))) && (He.eqO (PySem.W.findIn K (.ref (He.ga K x)) "__getattr__") (some none) && (decide (PySem.W.subIn K (.ref (He.ga K x)) (.type "BaseException") = some true) && (PySem.W.hasDictIn K (He.ga K x) &&
      (He.eqO (PySem.W.findIn K (.ref (He.ga K x)) "__class__") (some (some (.builtin "object.__class__"))) && (He.eqO (PySem.W.specialIn K (.builtin "object.__class__") "__get__") (some (some (.builtin "getset_descriptor.__get__"))) && (decide (PySem.W.takesIn K (.builtin "object.__class__") = some true) && decide (PySem.W.mroIn K (He.ga K x) (.type "object") = some true)))))))
  | .kit x y b => decide (PySem.W.kitOne K (.ref (He.ga K x)) (.ref (He.ga K y)) = some b)
  | .kiT x T b => decide (PySem.W.kitOne K (.ref (He.ga K x)) (.type T) = some b)
  | .tup x vs => He.tupB K x vs
  | .oex x => oexB K (He.ga K x) && decide (PySem.W.typeIn K (.ref (He.ma K (He.ga K x) "__init__")) = some (.type "function")) && He.eqO (PySem.W.findIn K (.ref (He.ga K x)) "__init__") (some (some (.ref (He.ma K (He.ga K x) "__init__"))))
  | .xf x f => xfB K (He.ga K x) && He.eqO (PySem.W.findIn K (.ref (He.ga K x)) f) (some none)
  | .exCs xs => xs.all fun x => exCb K x
  | .kits xs ys => xs.all fun x => ys.all fun y => decide (PySem.W.kitOne K (.ref (He.ga K x)) (.ref (He.ga K y)) = some (decide (x = y)))
  | .exms xs y => xs.all fun x => decide (PySem.W.exmOne K (.ref (He.ga K x)) (.ref (He.ga K y)) = some true)
/-! ### the head first: its run looked at part by part, each part by its own kernel run -/
theorem map_twoY {α β γ : Type} {X : Option α} {f : α → β} {g : α → γ} {b : β} {c : γ} (h1 : X.map f = some b) (h2 : X.map g = some c) : X.map (fun s => (f s, g s)) = some (b, c) := by
  cases X with
  | none => cases h1
  | some s => cases h1; cases h2; rfl
theorem map_impY {α β γ : Type} {X : Option α} {f : α → β} {b : β} (k : β → γ) {g : α → γ} (h : X.map f = some b) (e : ∀ s, g s = k (f s)) : X.map g = some (k b) := by
  cases X with
  | none => cases h
  | some s => cases h; exact congrArg some (e s)
noncomputable abbrev endY (r : PySem.W.OpenRow) (M : Nat) (w : World) (os : OsState) : Option PySem.W.SharedT := HandSHeadRun.endF (HandSHeadRun.stepQ (HandSHeadRun.denQ HandSHeadRun.tabQ) r.prog w) M r.prog w os
def HlA (r : PySem.W.OpenRow) (sel : (Addr → Option Obj) → List Addr) (ex : List XFa) (M : Nat) (w : World) : Prop :=
  ∀ os : OsState, (endY r M w os).map (fun s => let K := He.frG (HandSHeadRun.getT s) (sel (HandSHeadRun.getT s)); (HandSHeadRun.looksF r.prog (PySem.W.boot_heap w.params) s.abs, ex.all fun e => e.ok K)) = some (true, true)
def HlB (r : PySem.W.OpenRow) (q : Program) (sel : (Addr → Option Obj) → List Addr) (fa : List He.Fa) (M : Nat) (loose : List PySem.Str) (w : World) : Prop :=
  ∀ os : OsState, (endY r M w os).map (fun s => (HandSHeadRun.seenQ q loose (importedModules r.prog.main.body) (fun s => PySem.W.xlAt q [] s && PySem.W.recOk r.toRowW.records s) s.abs, fa.all fun f => f.ok (He.frG (HandSHeadRun.getT s) (sel (HandSHeadRun.getT s))))) = some (PySem.W.openGood q loose, true)
def HlD (r : PySem.W.OpenRow) (sel : (Addr → Option Obj) → List Addr) (fa : List He.Fa) (M : Nat) (w : World) : Prop :=
  ∀ os : OsState, (endY r M w os).map (fun s => fa.all fun f => f.ok (He.frG (HandSHeadRun.getT s) (sel (HandSHeadRun.getT s)))) = some true
def HlE (r : PySem.W.OpenRow) (sel : (Addr → Option Obj) → List Addr) (fn : List He.DefD) (M : Nat) (w : World) : Prop :=
  ∀ os : OsState, (endY r M w os).map (fun s => let K := He.frG (HandSHeadRun.getT s) (sel (HandSHeadRun.getT s)); (fn.all fun d => d.ok K, fn.map fun d => He.fnW K d.at_)) = some (true, fn.map He.DefD.val)
theorem hl_part {r : PySem.W.OpenRow} {sel : (Addr → Option Obj) → List Addr} {fn : List He.DefD} {M : Nat} {w : World} (n : Nat) (a : HlE r sel (fn.take n) M w) (b : HlE r sel (fn.drop n) M w) : HlE r sel fn M w := by
  intro os
  have h := map_impY (fun z => (z.1.1 && z.2.1, z.1.2 ++ z.2.2)) (map_twoY (a os) (b os)) (g := fun s => let K := He.frG (HandSHeadRun.getT s) (sel (HandSHeadRun.getT s)); (fn.all fun d => d.ok K, fn.map fun d => He.fnW K d.at_)) (fun s => by
    dsimp only
    rw [← List.all_append, ← List.map_append, List.take_append_drop])
  rw [h]
  dsimp only
  rw [← List.map_append, List.take_append_drop, Bool.and_self]
theorem hl_facts {r : PySem.W.OpenRow} {q : Program} {sel : (Addr → Option Obj) → List Addr} {fa : List He.Fa} {M n : Nat} {loose : List PySem.Str} {w : World} (a : HlB r q sel (fa.take n) M loose w) (b : HlD r sel (fa.drop n) M w) : HlB r q sel fa M loose w := by
  intro os
  have h := map_impY (fun z => (z.1.1, z.1.2 && z.2)) (map_twoY (a os) (b os)) (g := fun s => (HandSHeadRun.seenQ q loose (importedModules r.prog.main.body) (fun s => PySem.W.xlAt q [] s && PySem.W.recOk r.toRowW.records s) s.abs, fa.all fun f => f.ok (He.frG (HandSHeadRun.getT s) (sel (HandSHeadRun.getT s))))) (fun s => by
    dsimp only
    rw [← List.all_append, List.take_append_drop])
  exact h
end TD
set_option maxHeartbeats 0
namespace Hd
open TD PySem PySem.Spec PyProof.Rows L2
def top (i : Nat) : Stmt := PySem.Challenge.pw_mastword_k25_sleep_and_fog.main.body.getD i (.Pass ⟨0, 0, 0, 0⟩)
abbrev st_check_masts : Stmt := top 41
abbrev st_check_mast : Stmt := top 43
abbrev st_deed_text : Stmt := top 65
abbrev st__law_cell : Stmt := top 70
abbrev st__law_row : Stmt := top 71
abbrev st__law_like : Stmt := top 72
abbrev st__law_sky_deed : Stmt := top 73
abbrev st__law_kind : Stmt := top 74
abbrev st__law_do : Stmt := top 75
abbrev st__law_tried : Stmt := top 77
abbrev st_law : Stmt := top 78
abbrev st_Books_init : Stmt := inClass (top 48) 0
abbrev st_Books_copied : Stmt := inClass (top 48) 1
abbrev st_Phrasebook_init : Stmt := inClass (top 62) 0
abbrev st_Phrasebook_copied : Stmt := inClass (top 62) 6
abbrev st_Line_init : Stmt := inClass (top 68) 0
abbrev st_Line_state : Stmt := inClass (top 68) 1
abbrev st_Line_keep : Stmt := inClass (top 68) 3
abbrev st_Line_doze : Stmt := inClass (top 68) 17
abbrev st_Line_wake : Stmt := inClass (top 68) 18
abbrev st_Line_fog : Stmt := inClass (top 68) 19
abbrev st_Line_lift : Stmt := inClass (top 68) 20
abbrev st_Line_asleep : Stmt := inClass (top 68) 37
abbrev st_Line_fogs : Stmt := inClass (top 68) 38
def d0 : He.DefD := ⟨("check_masts", none), "check_masts", "check_masts", defArgs st_check_masts, defBody st_check_masts, defScope st_check_masts, [], []⟩
def d1 : He.DefD := ⟨("check_mast", none), "check_mast", "check_mast", defArgs st_check_mast, defBody st_check_mast, defScope st_check_mast, [], []⟩
def d2 : He.DefD := ⟨("deed_text", none), "deed_text", "deed_text", defArgs st_deed_text, defBody st_deed_text, defScope st_deed_text, [], []⟩
def d3 : He.DefD := ⟨("_law_cell", none), "_law_cell", "_law_cell", defArgs st__law_cell, defBody st__law_cell, defScope st__law_cell, [], []⟩
def d4 : He.DefD := ⟨("_law_row", none), "_law_row", "_law_row", defArgs st__law_row, defBody st__law_row, defScope st__law_row, [], []⟩
def d5 : He.DefD := ⟨("_law_like", none), "_law_like", "_law_like", defArgs st__law_like, defBody st__law_like, defScope st__law_like, [], []⟩
def d6 : He.DefD := ⟨("_law_sky_deed", none), "_law_sky_deed", "_law_sky_deed", defArgs st__law_sky_deed, defBody st__law_sky_deed, defScope st__law_sky_deed, [], []⟩
def d7 : He.DefD := ⟨("_law_kind", none), "_law_kind", "_law_kind", defArgs st__law_kind, defBody st__law_kind, defScope st__law_kind, [], []⟩
def d8 : He.DefD := ⟨("_law_do", none), "_law_do", "_law_do", defArgs st__law_do, defBody st__law_do, defScope st__law_do, [], []⟩
def d9 : He.DefD := ⟨("_law_tried", none), "_law_tried", "_law_tried", defArgs st__law_tried, defBody st__law_tried, defScope st__law_tried, [], []⟩
def d10 : He.DefD := ⟨("law", none), "law", "law", defArgs st_law, defBody st_law, defScope st_law, [], []⟩
def d11 : He.DefD := ⟨("Books", some "__init__"), "__init__", "Books.__init__", defArgs st_Books_init, defBody st_Books_init, defScope st_Books_init, [], []⟩
def d12 : He.DefD := ⟨("Books", some "copied"), "copied", "Books.copied", defArgs st_Books_copied, defBody st_Books_copied, defScope st_Books_copied, [], []⟩
def d13 : He.DefD := ⟨("Phrasebook", some "__init__"), "__init__", "Phrasebook.__init__", defArgs st_Phrasebook_init, defBody st_Phrasebook_init, defScope st_Phrasebook_init, [], []⟩
def d14 : He.DefD := ⟨("Phrasebook", some "copied"), "copied", "Phrasebook.copied", defArgs st_Phrasebook_copied, defBody st_Phrasebook_copied, defScope st_Phrasebook_copied, [], []⟩
def d15 : He.DefD := ⟨("Line", some "__init__"), "__init__", "Line.__init__", defArgs st_Line_init, defBody st_Line_init, defScope st_Line_init, [], []⟩
def d16 : He.DefD := ⟨("Line", some "state"), "state", "Line.state", defArgs st_Line_state, defBody st_Line_state, defScope st_Line_state, [], []⟩
def d17 : He.DefD := ⟨("Line", some "keep"), "keep", "Line.keep", defArgs st_Line_keep, defBody st_Line_keep, defScope st_Line_keep, [], []⟩
def d18 : He.DefD := ⟨("Line", some "doze"), "doze", "Line.doze", defArgs st_Line_doze, defBody st_Line_doze, defScope st_Line_doze, [], []⟩
def d19 : He.DefD := ⟨("Line", some "wake"), "wake", "Line.wake", defArgs st_Line_wake, defBody st_Line_wake, defScope st_Line_wake, [], []⟩
def d20 : He.DefD := ⟨("Line", some "fog"), "fog", "Line.fog", defArgs st_Line_fog, defBody st_Line_fog, defScope st_Line_fog, [], []⟩
def d21 : He.DefD := ⟨("Line", some "lift"), "lift", "Line.lift", defArgs st_Line_lift, defBody st_Line_lift, defScope st_Line_lift, [], []⟩
def d22 : He.DefD := ⟨("Line", some "asleep"), "asleep", "Line.asleep", defArgs st_Line_asleep, defBody st_Line_asleep, defScope st_Line_asleep, [], []⟩
def d23 : He.DefD := ⟨("Line", some "fogs"), "fogs", "Line.fogs", defArgs st_Line_fogs, defBody st_Line_fogs, defScope st_Line_fogs, [], []⟩
def fn : List He.DefD := [d0, d1, d2, d3, d4, d5, d6, d7, d8, d9, d10, d11, d12, d13, d14, d15, d16, d17, d18, d19, d20, d21, d22, d23]
def fa : List He.Fa := [.int "FEWEST" 2, .int "MOST" 12, .int "REST" 0, .glo "WAYS", .free "all", .free "bool", .free "dict", .free "int", .free "isinstance", .free "len", .free "list", .free "max", .free "min", .free "range", .free "sorted", .free "str", .free "tuple", .cls "Books", .noat "Books" "size", .noat "Books" "written", .noat "Books" "gone", .cls "Line", .noat "Line" "length", .noat "Line" "going", .noat "Line" "shown", .noat "Line" "queues", .noat "Line" "sleepers", .noat "Line" "clouds", .noat "Line" "books", .noat "Line" "phrases", .noat "Line" "told", .noat "Line" "past", .noat "Line" "ahead", .cls "Phrasebook", .noat "Phrasebook" "by_place", .noat "Phrasebook" "by_word", .glo "Asleep", .exc "Asleep", .glo "Awake", .exc "Awake", .glo "BadCount", .exc "BadCount", .glo "BadPlace", .exc "BadPlace", .glo "BadSign", .exc "BadSign", .glo "BadSlip", .exc "BadSlip", .glo "BadWay", .exc "BadWay", .glo "BadWord", .exc "BadWord", .glo "Busy", .exc "Busy", .glo "Clear", .exc "Clear", .glo "Fogged", .exc "Fogged", .glo "Full", .exc "Full", .glo "Known", .exc "Known", .glo "Legible", .exc "Legible", .glo "Lost", .exc "Lost", .glo "MastError", .exc "MastError", .glo "NoBook", .exc "NoBook", .glo "NoMast", .exc "NoMast", .glo "NoRow", .exc "NoRow", .glo "NoWord", .exc "NoWord", .glo "NotRaising", .exc "NotRaising", .glo "NotReady", .exc "NotReady", .glo "NothingLeft", .exc "NothingLeft", .glo "NothingWaits", .exc "NothingWaits", .glo "Taken", .exc "Taken", .glo "check_masts", .glo "check_mast", .glo "deed_text", .glo "_law_cell", .glo "_law_row", .glo "_law_like", .glo "_law_sky_deed", .glo "_law_kind", .glo "_law_do", .glo "_law_tried", .glo "law", .mkr "Books", .meth "Books" "copied", .mkr "Phrasebook", .meth "Phrasebook" "copied", .mkr "Line", .meth "Line" "state", .meth "Line" "keep", .meth "Line" "doze", .meth "Line" "wake", .meth "Line" "fog", .meth "Line" "lift", .meth "Line" "asleep", .meth "Line" "fogs", .glo "Books", .cls "Books", .glo "Line", .cls "Line", .glo "Phrasebook", .cls "Phrasebook"]
abbrev R : PySem.W.OpenRow := PySem.W.OpenLaw.row PySem.Challenge.rw_mastword_k25_sleep_and_fog
def ex : List XFa := [.exCs ["BadWay", "BadSign", "Full", "NothingWaits", "NoMast", "NotReady", "NotRaising", "BadSlip", "Asleep", "Awake", "Fogged", "Clear", "Busy", "NoRow", "NoBook", "Lost", "Legible", "NothingLeft", "BadPlace", "BadWord", "Taken", "Known", "NoWord"], .kits ["BadWay", "BadSign", "Full", "NothingWaits", "NoMast", "NotReady", "NotRaising", "BadSlip", "Asleep", "Awake", "Fogged", "Clear", "Busy", "NoRow", "NoBook", "Lost", "Legible", "NothingLeft", "BadPlace", "BadWord", "Taken", "Known", "NoWord"] ["BadWay", "BadSign", "Full", "NothingWaits", "NoMast", "NotReady", "NotRaising", "BadSlip", "Asleep", "Awake", "Fogged", "Clear", "Busy", "NoRow", "NoBook", "Lost", "Legible", "NothingLeft", "BadPlace", "BadWord", "Taken", "Known", "NoWord"], .exms ["BadWay", "BadSign", "Full", "NothingWaits", "NoMast", "NotReady", "NotRaising", "BadSlip", "Asleep", "Awake", "Fogged", "Clear", "Busy", "NoRow", "NoBook", "Lost", "Legible", "NothingLeft", "BadPlace", "BadWord", "Taken", "Known", "NoWord"] "MastError", .tup "WAYS" [.str "up", .str "down"]]
def sel (_ : Addr → Option Obj) : List Addr := [3, 76, 75, 89, 88, 101, 100, 113, 112, 125, 124, 137, 136, 149, 148, 161, 160, 173, 172, 185, 184, 197, 196, 209, 208, 221, 220, 233, 232, 245, 244, 257, 256, 269, 268, 281, 280, 293, 292, 305, 304, 317, 316, 329, 328, 341, 340, 353, 352, 365, 364, 511, 510, 612, 611, 1008, 1007, 375, 374, 389, 388, 626, 625, 1019, 1018, 1026, 1025, 1031, 1030, 1038, 1037, 1045, 1044, 1052, 1051, 1066, 1065, 1073, 1072, 424, 423, 431, 430, 569, 568, 609, 608, 640, 639, 647, 646, 661, 660, 757, 756, 764, 763, 771, 770, 778, 777, 895, 894, 902, 901, 368]
def nm0 : List PySem.Str := ["_wall", "REST", "sees_behind", "sees_ahead", "reason_raising", "reason_lowering", "reason", "ready", "ready_arms", "is_clear", "MastError", "BadCount", "NoMast", "BadWay", "BadSign", "Full", "NothingWaits", "NotReady", "NotRaising", "BadSlip", "Asleep", "Awake", "Fogged", "Clear", "Busy", "NoRow", "NoBook", "Lost", "Legible", "NothingLeft"]
def nm1 : List PySem.Str := ["BadPlace", "BadWord", "Taken", "Known", "NoWord", "WAYS", "FEWEST", "MOST", "check_masts", "check_way", "check_mast", "place_of", "along", "gap_place", "Books", "MOST_SIGN", "MOST_PAGE", "LETTERS", "WORD_END", "is_sign", "check_signs", "sign_of", "LONGEST", "is_word", "check_word", "check_place", "Phrasebook", "signs_of", "deed_text", "MOST_WAITING"]
def nm2 : List PySem.Str := ["Line", "_law_cell", "_law_row", "_law_like", "_law_sky_deed", "_law_kind", "_law_do", "_law_do_further", "_law_tried"]
def loose : List PySem.Str := nm0 ++ nm1 ++ nm2
theorem hlA (w : World) : HlA R sel ex 40000 w := by
  intro os
  kernel_rfl
theorem hlB (w : World) : HlB R (PySem.W.view R.prog [78]) sel (fa.take 23) 40000 loose w := by
  intro os
  kernel_rfl
theorem hlD (w : World) : HlD R sel (fa.drop 23) 40000 w := by
  intro os
  kernel_rfl
theorem hlE (w : World) : HlE R sel fn 40000 w := by
  intro os
  kernel_rfl
end Hd
/-! TD: data as trees over the hand layer. A value reads as a tree D in a persistent part P of the heap; what is changed stands node by node in a store w. -/
namespace TD
open PySem PySem.Spec PyProof.Rows L2

inductive D where
  | non | bl (b : Bool) | int (i : Int) | str (x : Str) | ty (n : String) | ref (a : Addr)
  | lst (xs : List D) | rol (xs : List D) | tup (xs : List D) | rot (xs : List D)
  | dct (ks : List Key) (xs : List D) | dtt (ks : List (List Key)) (xs : List D) | obj (C : Addr) (ns : List Str) (xs : List D)
  | exc (a dd : Addr) (x : D)

/-- P grows -/
def Ex (P P1 : Hp) : Prop := ∀ a u, P a = some u → P1 a = some u
theorem Ex.refl (P : Hp) : Ex P P := fun _ _ h => h
theorem Ex.trans {P P1 P2 : Hp} (a : Ex P P1) (b : Ex P1 P2) : Ex P P2 := fun x o h => b x o (a x o h)
theorem Ex.new {P : Hp} {p : Addr} {o : HO} (h : P p = none) : Ex P (upd P p o) := fun a u e => by
  rw [upd_ne (ne_of_none e h)]; exact e
theorem sqL_ex {K : PySem.W.Frag} {P P1 : Hp} {a : Addr} {xs : List V} (e : ∀ u, P a = some u → P1 a = some u) (h : SqL K P a xs) : SqL K P1 a xs := by
  rcases h with (h | ⟨o, h⟩) | h
  · exact .inl (.inl (e _ h))
  · exact .inl (.inr ⟨o, e _ h⟩)
  · exact .inr h
theorem sqT_ex {K : PySem.W.Frag} {P P1 : Hp} {a : Addr} {xs : List V} (e : ∀ u, P a = some u → P1 a = some u) (h : SqT K P a xs) : SqT K P1 a xs := by
  rcases h with (h | ⟨o, h⟩) | h
  · exact .inl (.inl (e _ h))
  · exact .inl (.inr ⟨o, e _ h⟩)
  · exact .inr h

mutual
inductive Rep (K : PySem.W.Frag) (P : Hp) : D → V → Prop
  | non : Rep K P .non .non
  | bl (b : Bool) : Rep K P (.bl b) (.bl b)
  | int (i : Int) : Rep K P (.int i) (.int i)
  | str (x : Str) : Rep K P (.str x) (.str x)
  | ty (n : String) : Rep K P (.ty n) (.ty n)
  | ref (a : Addr) : Rep K P (.ref a) (.ref a)
  | lst {a : Addr} {vs : List V} {ds : List D} : P a = some (.lst vs) → RepL K P ds vs → Rep K P (.lst ds) (.ref a)
  | rol {a : Addr} {vs : List V} {ds : List D} : SqL K P a vs → RepL K P ds vs → Rep K P (.rol ds) (.ref a)
  | tup {a : Addr} {vs : List V} {ds : List D} : P a = some (.tup vs) → RepL K P ds vs → Rep K P (.tup ds) (.ref a)
  | rot {a : Addr} {vs : List V} {ds : List D} : SqT K P a vs → RepL K P ds vs → Rep K P (.rot ds) (.ref a)
  | dct {a : Addr} {kvs : List (Key × V)} {ds : List D} : P a = some (.dK kvs) → RepL K P ds (kvs.map (·.2)) → Rep K P (.dct (kvs.map (·.1)) ds) (.ref a)
  | dtt {a : Addr} {kvs : List (List Key × V)} {ds : List D} : P a = some (.dT kvs) → RepL K P ds (kvs.map (·.2)) → Rep K P (.dtt (kvs.map (·.1)) ds) (.ref a)
  | obj {a C dx : Addr} {fs : List (Str × V)} {ds : List D} : P a = some (.ins C dx fs) → P dx = some (.own a) → RepL K P ds (fs.map (·.2)) → Rep K P (.obj C (fs.map (·.1)) ds) (.ref a)
  | exc {a dd : Addr} {x : D} {v : V} : P dd = some (.xd [("at", v)]) → Rep K P x v → Rep K P (.exc a dd x) (.ref a)
inductive RepL (K : PySem.W.Frag) (P : Hp) : List D → List V → Prop
  | nil : RepL K P [] []
  | cons {d : D} {v : V} {ds : List D} {vs : List V} : Rep K P d v → RepL K P ds vs → RepL K P (d :: ds) (v :: vs)
end
section
variable {K : PySem.W.Frag} {P P1 : Hp}
mutual
theorem Rep.mono (e : Ex P P1) : ∀ {d : D} {v : V}, Rep K P d v → Rep K P1 d v
  | _, _, .non => .non
  | _, _, .bl b => .bl b
  | _, _, .int i => .int i
  | _, _, .str x => .str x
  | _, _, .ty n => .ty n
  | _, _, .ref a => .ref a
  | _, _, .lst h r => .lst (e _ _ h) (RepL.mono e r)
  | _, _, .rol h r => .rol (sqL_ex (e _) h) (RepL.mono e r)
  | _, _, .tup h r => .tup (e _ _ h) (RepL.mono e r)
  | _, _, .rot h r => .rot (sqT_ex (e _) h) (RepL.mono e r)
  | _, _, .dct h r => .dct (e _ _ h) (RepL.mono e r)
  | _, _, .dtt h r => .dtt (e _ _ h) (RepL.mono e r)
  | _, _, .obj h h2 r => .obj (e _ _ h) (e _ _ h2) (RepL.mono e r)
  | _, _, .exc h r => .exc (e _ _ h) (Rep.mono e r)
theorem RepL.mono (e : Ex P P1) : ∀ {ds : List D} {vs : List V}, RepL K P ds vs → RepL K P1 ds vs
  | _, _, .nil => .nil
  | _, _, .cons h r => .cons (Rep.mono e h) (RepL.mono e r)
end
theorem RepL.length : ∀ {ds : List D} {vs : List V}, RepL K P ds vs → vs.length = ds.length
  | _, _, .nil => rfl
  | _, _, .cons _ r => by rw [List.length_cons, List.length_cons, RepL.length r]
theorem RepL.get : ∀ {ds : List D} {vs : List V} {i : Nat} {d : D}, RepL K P ds vs → ds[i]? = some d → ∃ v, vs[i]? = some v ∧ Rep K P d v
  | _, _, _, _, .nil, e => by simp at e
  | _, _, 0, _, .cons r _, e => by simp at e; subst e; exact ⟨_, rfl, r⟩
  | _, _, i + 1, d, .cons _ t, e => by
    obtain ⟨u, h1, h2⟩ := RepL.get (i := i) (d := d) t (by simpa using e)
    exact ⟨u, by simpa using h1, h2⟩
theorem RepL.get' : ∀ {ds : List D} {vs : List V} {i : Nat} {v : V}, RepL K P ds vs → vs[i]? = some v → ∃ d, ds[i]? = some d ∧ Rep K P d v
  | _, _, _, _, .nil, e => by simp at e
  | _, _, 0, _, .cons r _, e => by simp at e; subst e; exact ⟨_, rfl, r⟩
  | _, _, i + 1, d, .cons _ t, e => by
    obtain ⟨u, h1, h2⟩ := RepL.get' (i := i) (v := d) t (by simpa using e)
    exact ⟨u, by simpa using h1, h2⟩
theorem RepL.set {d : D} {v : V} (h : Rep K P d v) : ∀ {ds : List D} {vs : List V} (i : Nat), RepL K P ds vs → RepL K P (ds.set i d) (vs.set i v)
  | _, _, _, .nil => .nil
  | _, _, 0, .cons _ t => .cons h t
  | _, _, i + 1, .cons q t => .cons q (RepL.set h i t)
theorem RepL.append : ∀ {ds es : List D} {vs us : List V}, RepL K P ds vs → RepL K P es us → RepL K P (ds ++ es) (vs ++ us)
  | _, _, _, _, .nil, s => s
  | _, _, _, _, .cons r t, s => .cons r (RepL.append t s)
theorem RepL.take : ∀ {ds : List D} {vs : List V} (n : Nat), RepL K P ds vs → RepL K P (ds.take n) (vs.take n)
  | _, _, 0, _ => .nil
  | _, _, _ + 1, .nil => .nil
  | _, _, n + 1, .cons r t => .cons r (RepL.take n t)
theorem RepL.drop : ∀ {ds : List D} {vs : List V} (n : Nat), RepL K P ds vs → RepL K P (ds.drop n) (vs.drop n)
  | _, _, 0, r => r
  | _, _, _ + 1, .nil => .nil
  | _, _, n + 1, .cons _ t => RepL.drop n t
theorem RepL.dropLast : ∀ {ds : List D} {vs : List V}, RepL K P ds vs → RepL K P ds.dropLast vs.dropLast
  | _, _, .nil => .nil
  | _, _, .cons _ .nil => .nil
  | _, _, .cons r (.cons r2 t) => .cons r (RepL.dropLast (.cons r2 t))
theorem RepL.reverse {ds : List D} {vs : List V} (h : RepL K P ds vs) : RepL K P ds.reverse vs.reverse := by
  induction ds generalizing vs with
  | nil => cases h; exact .nil
  | cons d ds ih =>
    cases h with
    | cons r t =>
      rw [List.reverse_cons, List.reverse_cons]
      exact (ih t).append (.cons r .nil)
theorem RepL.replicate {d : D} {v : V} (h : Rep K P d v) : ∀ n : Nat, RepL K P (List.replicate n d) (List.replicate n v)
  | 0 => .nil
  | n + 1 => .cons h (RepL.replicate h n)
theorem RepL.ints : ∀ (ns : List Int), RepL K P (ns.map D.int) (ns.map V.int)
  | [] => .nil
  | n :: r => .cons (.int n) (RepL.ints r)
theorem RepL.of_ints : ∀ {ns : List Int} {vs : List V}, RepL K P (ns.map D.int) vs → vs = ns.map V.int
  | [], _, h => by cases h; rfl
  | n :: r, _, h => by
    cases h with
    | cons h t => cases h; rw [RepL.of_ints t]; rfl
end

/-! ### the store -/
inductive Nd where
  | lst (xs : List D) | dK (kvs : List (Key × D)) | dT (kvs : List (List Key × D)) | ins (C : Addr) (fs : List (Str × D))
  | lkK (o : Obj) (u : HO) (kvs : List (Key × D)) | lkT (o : Obj) (u : HO) (kvs : List (List Key × D))
abbrev Wd := Addr → Option Nd
def put (w : Wd) (a : Addr) (n : Nd) : Wd := fun b => if b = a then some n else w b
def rid (w : Wd) (a : Addr) : Wd := fun b => if b = a then none else w b
theorem put_same {w : Wd} {a : Addr} {n : Nd} : put w a n a = some n := if_pos rfl
theorem put_ne {w : Wd} {a b : Addr} {n : Nd} (h : b ≠ a) : put w a n b = w b := if_neg h
theorem rid_put {w : Wd} {a : Addr} {n : Nd} (h : w a = none) : rid (put w a n) a = w := by
  funext b; unfold rid put; split
  · next e => rw [e, h]
  · rfl
theorem put_put {w : Wd} {a : Addr} {n m : Nd} : put (put w a n) a m = put w a m := by
  funext b; unfold put; split <;> rfl
theorem put_self {w : Wd} {a : Addr} {n : Nd} (h : w a = some n) : put w a n = w := by
  funext b; unfold put; split
  · next e => rw [e, h]
  · rfl
abbrev KVr (K : PySem.W.Frag) (P : Hp) {κ : Type} : List (κ × D) → List (κ × V) → Prop := Paired fun p q => p.1 = q.1 ∧ Rep K P p.2 q.2
def NdOk (K : PySem.W.Frag) (P : Hp) (a : Addr) : Nd → HO → Prop
  | .lst ds, ho => ∃ vs, ho = .lst vs ∧ RepL K P ds vs
  | .dK kvs, ho => ∃ kws, ho = .dK kws ∧ KVr K P kvs kws
  | .dT kvs, ho => ∃ kws, ho = .dT kws ∧ KVr K P kvs kws
  | .ins C fs, ho => ∃ dx gs, ho = .ins C dx gs ∧ KVr K P fs gs ∧ P dx = some (.own a)
  | .lkK o u kvs, ho => ho = .frz o u ∧ ∃ kws, u = .dK kws ∧ KVr K P kvs kws
  | .lkT o u kvs, ho => ho = .frz o u ∧ ∃ kws, u = .dT kws ∧ KVr K P kvs kws
theorem KVr.mono {K : PySem.W.Frag} {P P1 : Hp} (e : Ex P P1) {κ : Type} {l : List (κ × D)} {m : List (κ × V)} (h : KVr K P l m) : KVr K P1 l m := Paired.mapP h fun _ _ z => ⟨z.1, z.2.mono e⟩
theorem NdOk.mono {K : PySem.W.Frag} {P P1 : Hp} (e : Ex P P1) {a : Addr} : ∀ {n : Nd} {ho : HO}, NdOk K P a n ho → NdOk K P1 a n ho
  | .lst _, _, ⟨vs, h, r⟩ => ⟨vs, h, r.mono e⟩
  | .dK _, _, ⟨vs, h, r⟩ => ⟨vs, h, KVr.mono e r⟩
  | .dT _, _, ⟨vs, h, r⟩ => ⟨vs, h, KVr.mono e r⟩
  | .ins _ _, _, ⟨dx, gs, h, r, q⟩ => ⟨dx, gs, h, KVr.mono e r, e _ _ q⟩
  | .lkK _ _ _, _, ⟨h, kws, q, r⟩ => ⟨h, kws, q, KVr.mono e r⟩
  | .lkT _ _ _, _, ⟨h, kws, q, r⟩ => ⟨h, kws, q, KVr.mono e r⟩

/-- the heap H holds the persistent part P and the store w (and maybe more) -/
structure RH (K : PySem.W.Frag) (H P : Hp) (w : Wd) : Prop where
  per : ∀ a u, P a = some u → H a = some u
  own : ∀ a n, w a = some n → P a = none ∧ ∃ ho, H a = some ho ∧ NdOk K P a n ho
/-- not a tuple -/
def NT (u : HO) : Prop := ∀ xs, u ≠ .tup xs
/-- from one state to a later one: P grows, what is neither P's nor w's stands (tuples may become P's) -/
structure Go (K : PySem.W.Frag) (H P : Hp) (w : Wd) (H1 P1 : Hp) (w1 : Wd) : Prop where
  ex : Ex P P1
  rh : RH K H1 P1 w1
  fr : ∀ a u, NT u → H a = some u → P a = none → w a = none → H1 a = some u ∧ P1 a = none ∧ w1 a = none
section
variable {K : PySem.W.Frag} {H P H1 P1 H2 P2 : Hp} {w w1 w2 : Wd}
theorem RH.go (r : RH K H P w) : Go K H P w H P w := ⟨Ex.refl P, r, fun _ _ _ a b c => ⟨a, b, c⟩⟩
theorem Go.trans (a : Go K H P w H1 P1 w1) (b : Go K H1 P1 w1 H2 P2 w2) : Go K H P w H2 P2 w2 :=
  ⟨a.ex.trans b.ex, b.rh, fun x u n h p q => let ⟨h1, p1, q1⟩ := a.fr x u n h p q; b.fr x u n h1 p1 q1⟩
/-- a new address is new to both -/
theorem RH.free (r : RH K H P w) {p : Addr} (h : H p = none) : P p = none ∧ w p = none := by
  constructor
  · cases e : P p with
    | none => rfl
    | some u => rw [r.per p u e] at h; cases h
  · cases e : w p with
    | none => rfl
    | some n =>
      obtain ⟨_, ho, q, _⟩ := r.own p n e
      rw [q] at h; cases h
/-- a new persistent object -/
theorem RH.newP (r : RH K H P w) {p : Addr} {o : HO} (h : H p = none) : Go K H P w (upd H p o) (upd P p o) w := by
  obtain ⟨hp, hw⟩ := r.free h
  have e : Ex P (upd P p o) := Ex.new hp
  refine ⟨e, ⟨fun a u q => ?_, fun a n q => ?_⟩, fun a u _ q hq hw1 => ?_⟩
  · by_cases ha : a = p
    · subst ha; rw [upd_same] at q; rw [upd_same]; exact q
    · rw [upd_ne ha] at q; rw [upd_ne ha]; exact r.per a u q
  · have ha : a ≠ p := fun z => by rw [z, hw] at q; cases q
    obtain ⟨h1, ho, h2, h3⟩ := r.own a n q
    rw [upd_ne ha, upd_ne ha]
    exact ⟨h1, ho, h2, h3.mono e⟩
  · have ha : a ≠ p := ne_of_none q h
    rw [upd_ne ha, upd_ne ha]
    exact ⟨q, hq, hw1⟩
/-- a new node -/
theorem RH.newW (r : RH K H P w) {p : Addr} {o : HO} {n : Nd} (h : H p = none) (k : NdOk K P p n o) : Go K H P w (upd H p o) P (put w p n) := by
  obtain ⟨hp, hw⟩ := r.free h
  refine ⟨Ex.refl P, ⟨fun a u q => ?_, fun a m q => ?_⟩, fun a u _ q hq hw1 => ?_⟩
  · rw [upd_ne (fun z => by rw [z, hp] at q; cases q)]; exact r.per a u q
  · by_cases ha : a = p
    · subst ha; rw [put_same] at q; cases q
      exact ⟨hp, o, upd_same, k⟩
    · rw [put_ne ha] at q
      obtain ⟨h1, ho, h2, h3⟩ := r.own a m q
      rw [upd_ne ha]
      exact ⟨h1, ho, h2, h3⟩
  · have ha : a ≠ p := ne_of_none q h
    rw [upd_ne ha, put_ne ha]
    exact ⟨q, hq, hw1⟩
/-- a node changes -/
theorem RH.setW (r : RH K H P w) {p : Addr} {o : HO} {n m : Nd} (h : w p = some n) (k : NdOk K P p m o) : Go K H P w (upd H p o) P (put w p m) := by
  obtain ⟨hp, _⟩ := r.own p n h
  refine ⟨Ex.refl P, ⟨fun a u q => ?_, fun a m' q => ?_⟩, fun a u _ q hq hw1 => ?_⟩
  · rw [upd_ne (fun z => by rw [z, hp] at q; cases q)]; exact r.per a u q
  · by_cases ha : a = p
    · subst ha; rw [put_same] at q; cases q
      exact ⟨hp, o, upd_same, k⟩
    · rw [put_ne ha] at q
      obtain ⟨h1, ho, h2, h3⟩ := r.own a m' q
      rw [upd_ne ha]
      exact ⟨h1, ho, h2, h3⟩
  · have ha : a ≠ p := fun z => by rw [z, h] at hw1; cases hw1
    rw [upd_ne ha, put_ne ha]
    exact ⟨q, hq, hw1⟩
/-- a tuple becomes persistent -/
theorem RH.absorb (r : RH K H P w) {p : Addr} {vs : List V} (h : H p = some (.tup vs)) : ∃ P1, Go K H P w H P1 w ∧ P1 p = some (.tup vs) := by
  cases hp : P p with
  | some u =>
    have := r.per p u hp
    rw [h] at this
    cases this
    exact ⟨P, r.go, hp⟩
  | none =>
    have hw : w p = none := by
      cases e : w p with
      | none => rfl
      | some n =>
        obtain ⟨_, ho, q, k⟩ := r.own p n e
        rw [h] at q
        cases q
        cases n with
        | lst ds => obtain ⟨vs, z, _⟩ := k; cases z
        | dK kvs => obtain ⟨vs, z, _⟩ := k; cases z
        | dT kvs => obtain ⟨vs, z, _⟩ := k; cases z
        | ins C fs => obtain ⟨dx, gs, z, _⟩ := k; cases z
        | lkK o u kvs => obtain ⟨z, _⟩ := k; cases z
        | lkT o u kvs => obtain ⟨z, _⟩ := k; cases z
    have e : Ex P (upd P p (.tup vs)) := Ex.new hp
    refine ⟨upd P p (.tup vs), ⟨e, ⟨fun a u q => ?_, fun a n q => ?_⟩, fun a u nt q hq hw1 => ?_⟩, upd_same⟩
    · by_cases ha : a = p
      · subst ha; rw [upd_same] at q; rw [← q]; exact h
      · rw [upd_ne ha] at q; exact r.per a u q
    · have ha : a ≠ p := fun z => by rw [z, hw] at q; cases q
      obtain ⟨h1, ho, h2, h3⟩ := r.own a n q
      rw [upd_ne ha]
      exact ⟨h1, ho, h2, h3.mono e⟩
    · have ha : a ≠ p := fun z => by rw [z, h] at q; cases q; exact nt _ rfl
      rw [upd_ne ha]
      exact ⟨q, hq, hw1⟩
/-- a node becomes persistent -/
theorem RH.frz (r : RH K H P w) {p : Addr} {n : Nd} {ho : HO} (h : w p = some n) (hh : H p = some ho) : Go K H P w H (upd P p ho) (rid w p) := by
  obtain ⟨hp, _⟩ := r.own p n h
  have e : Ex P (upd P p ho) := Ex.new hp
  refine ⟨e, ⟨fun a u q => ?_, fun a m q => ?_⟩, fun a u _ q hq hw1 => ?_⟩
  · by_cases ha : a = p
    · subst ha; rw [upd_same] at q; cases q; exact hh
    · rw [upd_ne ha] at q; exact r.per a u q
  · by_cases ha : a = p
    · subst ha; unfold rid at q; rw [if_pos rfl] at q; cases q
    · unfold rid at q; rw [if_neg ha] at q
      obtain ⟨h1, ho', h2, h3⟩ := r.own a m q
      rw [upd_ne ha]
      exact ⟨h1, ho', h2, h3.mono e⟩
  · have ha : a ≠ p := fun z => by rw [z, h] at hw1; cases hw1
    rw [upd_ne ha]
    refine ⟨q, hq, ?_⟩
    unfold rid; rw [if_neg ha]; exact hw1
/-- an object that is neither P's nor w's changes -/
theorem RH.setF (r : RH K H P w) {p : Addr} {o : HO} (hp : P p = none) (hw : w p = none) : RH K (upd H p o) P w :=
  ⟨fun a u q => by rw [upd_ne (fun z => by rw [z, hp] at q; cases q)]; exact r.per a u q,
   fun a n q => by
    obtain ⟨h1, ho, h2, h3⟩ := r.own a n q
    rw [upd_ne (fun z => by rw [z, hw] at q; cases q)]
    exact ⟨h1, ho, h2, h3⟩⟩
end
end TD

set_option maxHeartbeats 2000000
namespace TD
open PySem PySem.Spec PyProof.Rows L2

abbrev St := L2.St
abbrev DSt := List (Option D)
/-- the slots read as trees -/
def Slots (K : PySem.W.Frag) (P : Hp) (S : DSt) (σ : St) : Prop := S.length = σ.length ∧ ∀ (i : Nat) (d : D), S[i]? = some (some d) → ∃ v, σ[i]? = some (some v) ∧ Rep K P d v
theorem Slots.mono {K : PySem.W.Frag} {P P1 : Hp} {S : DSt} {σ : St} (h : Slots K P S σ) (e : Ex P P1) : Slots K P1 S σ :=
  ⟨h.1, fun i d q => let ⟨v, a, b⟩ := h.2 i d q; ⟨v, a, b.mono e⟩⟩
theorem Slots.set {K : PySem.W.Frag} {P : Hp} {S : DSt} {σ : St} (h : Slots K P S σ) (i : Nat) {d : D} {v : V} (r : Rep K P d v) : Slots K P (S.set i (some d)) (σ.set i (some v)) := by
  refine ⟨by rw [List.length_set, List.length_set]; exact h.1, fun j e q => ?_⟩
  by_cases hj : i = j
  · subst hj
    have hl : i < (S.set i (some d)).length := (List.getElem?_eq_some_iff.mp q).1
    rw [List.length_set] at hl
    rw [List.getElem?_set_self hl] at q
    cases q
    exact ⟨v, by rw [List.getElem?_set_self (by rw [← h.1]; exact hl)], r⟩
  · rw [List.getElem?_set_ne hj] at q
    obtain ⟨u, a, b⟩ := h.2 j e q
    exact ⟨u, by rw [List.getElem?_set_ne hj]; exact a, b⟩
theorem Slots.del {K : PySem.W.Frag} {P : Hp} {S : DSt} {σ : St} (h : Slots K P S σ) (i : Nat) {o : Option V} : Slots K P (S.set i none) (σ.set i o) := by
  refine ⟨by rw [List.length_set, List.length_set]; exact h.1, fun j e q => ?_⟩
  by_cases hj : i = j
  · subst hj
    have hl : i < (S.set i none).length := (List.getElem?_eq_some_iff.mp q).1
    rw [List.length_set] at hl
    rw [List.getElem?_set_self hl] at q
    cases q
  · rw [List.getElem?_set_ne hj] at q
    obtain ⟨u, a, b⟩ := h.2 j e q
    exact ⟨u, by rw [List.getElem?_set_ne hj]; exact a, b⟩
/-- a slot may be forgotten, or told otherwise -/
theorem Slots.forget {K : PySem.W.Frag} {P : Hp} {S : DSt} {σ : St} (h : Slots K P S σ) (i : Nat) : Slots K P (S.set i none) σ := by
  refine ⟨by rw [List.length_set]; exact h.1, fun j e q => ?_⟩
  by_cases hj : i = j
  · subst hj
    have hl : i < (S.set i none).length := (List.getElem?_eq_some_iff.mp q).1
    rw [List.length_set] at hl
    rw [List.getElem?_set_self hl] at q
    cases q
  · rw [List.getElem?_set_ne hj] at q
    exact h.2 j e q
theorem Slots.retell {K : PySem.W.Frag} {P : Hp} {S : DSt} {σ : St} (h : Slots K P S σ) (i : Nat) {d d1 : D} (hs : S[i]? = some (some d)) (hr : ∀ v, Rep K P d v → Rep K P d1 v) : Slots K P (S.set i (some d1)) σ := by
  refine ⟨by rw [List.length_set]; exact h.1, fun j e q => ?_⟩
  by_cases hj : i = j
  · subst hj
    have hl : i < (S.set i (some d1)).length := (List.getElem?_eq_some_iff.mp q).1
    rw [List.length_set] at hl
    rw [List.getElem?_set_self hl] at q
    cases q
    obtain ⟨v, a, b⟩ := h.2 i d hs
    exact ⟨v, a, hr v b⟩
  · rw [List.getElem?_set_ne hj] at q
    exact h.2 j e q

abbrev DKt := D → Wd → Prop
abbrev DE := DSt → Wd → DKt → Prop
abbrev DT := DSt → Wd → (Bool → Wd → Prop) → Prop
abbrev DA := DSt → Wd → (List D → Wd → Prop) → Prop
structure DEnds where
  nx : DSt → Wd → Prop
  rt : DKt
  bk : DSt → Wd → Prop := fun _ _ => False
  ct : DSt → Wd → Prop := fun _ _ => False
abbrev DS := DEnds → DSt → Wd → Prop
/-- an exception: its class, the tree of its field at -/
abbrev DX := Value → Option D → Wd → Prop
abbrev DWX := Value → Option D → DSt → Wd → Prop
abbrev DSp := List D → Wd → DKt → DX → Prop
abbrev W0 : WX := fun _ _ _ _ => False
abbrev DW0 : DWX := fun _ _ _ _ => False

def XRep (K : PySem.W.Frag) (P : Hp) : Option D → Option Addr → Prop
  | none, dd => dd = none
  | some d, dd => ∃ a v, dd = some a ∧ P a = some (.xd [("at", v)]) ∧ Rep K P d v
def RetOk (K : PySem.W.Frag) (H P : Hp) (w : Wd) (Q' : DKt) (Q : VK) : Prop := ∀ d w1, Q' d w1 → ∀ v H1 P1, Go K H P w H1 P1 w1 → Rep K P1 d v → Q v H1
def TstOk (K : PySem.W.Frag) (H P : Hp) (w : Wd) (Q' : Bool → Wd → Prop) (Q : Bool → Hp → Prop) : Prop := ∀ b w1, Q' b w1 → ∀ H1 P1, Go K H P w H1 P1 w1 → Q b H1
def ArgOk (K : PySem.W.Frag) (H P : Hp) (w : Wd) (Q' : List D → Wd → Prop) (Q : List V → Hp → Prop) : Prop := ∀ ds w1, Q' ds w1 → ∀ vs H1 P1, Go K H P w H1 P1 w1 → RepL K P1 ds vs → Q vs H1
def StOk (K : PySem.W.Frag) (H P : Hp) (w : Wd) (N' : DSt → Wd → Prop) (N : St → Hp → Prop) : Prop := ∀ S1 w1, N' S1 w1 → ∀ σ1 H1 P1, Go K H P w H1 P1 w1 → Slots K P1 S1 σ1 → N σ1 H1
def WOk (K : PySem.W.Frag) (H P : Hp) (w : Wd) (W' : DWX) (W : WX) : Prop := ∀ c x S1 w1, W' c x S1 w1 → ∀ dd σ1 H1 P1, Go K H P w H1 P1 w1 → Slots K P1 S1 σ1 → XRep K P1 x dd → W c dd σ1 H1
def XOk (K : PySem.W.Frag) (H P : Hp) (w : Wd) (E' : DX) (E : XK) : Prop := ∀ c x w1, E' c x w1 → ∀ dd H1 P1, Go K H P w H1 P1 w1 → XRep K P1 x dd → E c dd H1
structure EndsOk (K : PySem.W.Frag) (H P : Hp) (w : Wd) (D' : DEnds) (D : Ends) : Prop where
  nx : StOk K H P w D'.nx D.nx
  rt : RetOk K H P w D'.rt D.rt
  bk : StOk K H P w D'.bk D.bk
  ct : StOk K H P w D'.ct D.ct
section
variable {K : PySem.W.Frag} {H P H1 P1 : Hp} {w w1 : Wd}
theorem RetOk.go {Q' : DKt} {Q : VK} (h : RetOk K H P w Q' Q) (g : Go K H P w H1 P1 w1) : RetOk K H1 P1 w1 Q' Q := fun d w2 q v H2 P2 g2 r => h d w2 q v H2 P2 (g.trans g2) r
theorem StOk.go {N' : DSt → Wd → Prop} {N : St → Hp → Prop} (h : StOk K H P w N' N) (g : Go K H P w H1 P1 w1) : StOk K H1 P1 w1 N' N := fun S w2 q σ H2 P2 g2 r => h S w2 q σ H2 P2 (g.trans g2) r
theorem TstOk.go {Q' : Bool → Wd → Prop} {Q : Bool → Hp → Prop} (h : TstOk K H P w Q' Q) (g : Go K H P w H1 P1 w1) : TstOk K H1 P1 w1 Q' Q := fun S w2 q H2 P2 g2 => h S w2 q H2 P2 (g.trans g2)
theorem ArgOk.go {Q' : List D → Wd → Prop} {Q : List V → Hp → Prop} (h : ArgOk K H P w Q' Q) (g : Go K H P w H1 P1 w1) : ArgOk K H1 P1 w1 Q' Q := fun d w2 q v H2 P2 g2 r => h d w2 q v H2 P2 (g.trans g2) r
theorem WOk.go {W' : DWX} {W : WX} (h : WOk K H P w W' W) (g : Go K H P w H1 P1 w1) : WOk K H1 P1 w1 W' W := fun c x S w2 q dd σ H2 P2 g2 r z => h c x S w2 q dd σ H2 P2 (g.trans g2) r z
theorem XOk.go {E' : DX} {E : XK} (h : XOk K H P w E' E) (g : Go K H P w H1 P1 w1) : XOk K H1 P1 w1 E' E := fun c x w2 q dd H2 P2 g2 r => h c x w2 q dd H2 P2 (g.trans g2) r
theorem EndsOk.go {D' : DEnds} {D : Ends} (h : EndsOk K H P w D' D) (g : Go K H P w H1 P1 w1) : EndsOk K H1 P1 w1 D' D := ⟨h.nx.go g, h.rt.go g, h.bk.go g, h.ct.go g⟩
theorem WOk.none : WOk K H P w DW0 W0 := fun _ _ _ _ q => q.elim
end

def liftE (K : PySem.W.Frag) (W : WX) (W' : DWX) (t : DE) : TE := fun σ H Q => ∃ P w S Q', RH K H P w ∧ Slots K P S σ ∧ t S w Q' ∧ RetOk K H P w Q' Q ∧ WOk K H P w W' W
def liftT (K : PySem.W.Frag) (W : WX) (W' : DWX) (t : DT) : TT := fun σ H Q => ∃ P w S Q', RH K H P w ∧ Slots K P S σ ∧ t S w Q' ∧ TstOk K H P w Q' Q ∧ WOk K H P w W' W
def liftA (K : PySem.W.Frag) (W : WX) (W' : DWX) (t : DA) : TA := fun σ H Q => ∃ P w S Q', RH K H P w ∧ Slots K P S σ ∧ t S w Q' ∧ ArgOk K H P w Q' Q ∧ WOk K H P w W' W
def liftS (K : PySem.W.Frag) (W : WX) (W' : DWX) (t : DS) : TS := fun D σ H => ∃ P w S D', RH K H P w ∧ Slots K P S σ ∧ t D' S w ∧ EndsOk K H P w D' D ∧ WOk K H P w W' W
def lift (K : PySem.W.Frag) (sp : DSp) : Sp := fun vs H Q E => ∃ P w ds Q' E', RH K H P w ∧ RepL K P ds vs ∧ sp ds w Q' E' ∧ RetOk K H P w Q' Q ∧ XOk K H P w E' E

/-! ### judgements -/
def QE (X : Cx) (W : WX) (W' : DWX) (e : Expr) (t : DE) : Prop := PE X e (liftE X.K W W' t)
def QT (X : Cx) (W : WX) (W' : DWX) (e : Expr) (t : DT) : Prop := PT X e (liftT X.K W W' t)
def QW (X : Cx) (W : WX) (W' : DWX) (e : Expr) (t : DT) : Prop := PW X e (liftT X.K W W' t)
def QA (X : Cx) (W : WX) (W' : DWX) (es : List Expr) (t : DA) : Prop := PA X es (liftA X.K W W' t)
def QS (X : Cx) (W : WX) (W' : DWX) (st : Stmt) (t : DS) : Prop := PS X st (liftS X.K W W' t)
def QSs (X : Cx) (W : WX) (W' : DWX) (sts : List Stmt) (t : DS) : Prop := PSs X sts (liftS X.K W W' t)
theorem PE.imp {X : Cx} {e : Expr} {t u : TE} (h : PE X e t) (k : ∀ σ H Q, u σ H Q → t σ H Q) : PE X e u := ⟨fun pins s σ H Q I q => h.run pins s σ H Q I (k σ H Q q)⟩
theorem PT.imp {X : Cx} {e : Expr} {t u : TT} (h : PT X e t) (k : ∀ σ H Q, u σ H Q → t σ H Q) : PT X e u := ⟨fun pins s σ H Q I q => h.run pins s σ H Q I (k σ H Q q)⟩
theorem PW.imp {X : Cx} {e : Expr} {t u : TT} (h : PW X e t) (k : ∀ σ H Q, u σ H Q → t σ H Q) : PW X e u := ⟨fun wh pins s σ H Q I q => h.run wh pins s σ H Q I (k σ H Q q)⟩
theorem PA.imp {X : Cx} {e : List Expr} {t u : TA} (h : PA X e t) (k : ∀ σ H Q, u σ H Q → t σ H Q) : PA X e u := ⟨fun pos pins s σ H Q I q => h.run pos pins s σ H Q I (k σ H Q q)⟩
theorem PS.imp {X : Cx} {e : Stmt} {t u : TS} (h : PS X e t) (k : ∀ D σ H, u D σ H → t D σ H) : PS X e u := ⟨fun pins s σ H D I q => h.run pins s σ H D I (k D σ H q)⟩
theorem PSs.imp {X : Cx} {e : List Stmt} {t u : TS} (h : PSs X e t) (k : ∀ D σ H, u D σ H → t D σ H) : PSs X e u := ⟨fun pins s σ H D I q => h.run pins s σ H D I (k D σ H q)⟩

/-! ### names, constants -/
section
variable {X : Cx} {W : WX} {W' : DWX} {a b c e : Expr} {es : List Expr} {ta tb tc te : DE} {pos : Pos}
def dVar (i : Nat) : DE := fun S w Q => match S[i]? with
  | some (some d) => Q d w
  | _ => False
def dC (d : D) : DE := fun _ w Q => Q d w
theorem dVar_get {i : Nat} {S : DSt} {w : Wd} {Q : DKt} (h : dVar i S w Q) : ∃ d, S[i]? = some (some d) ∧ Q d w := by
  unfold dVar at h
  split at h
  · exact ⟨_, by assumption, h⟩
  · exact h.elim
theorem qv (i : Nat) {x : Str} {pos : Pos} (hN : X.N[i]? = some x := by rfl) (hv : Vis X.env.scope x := by first | exact Or.inl rfl | exact Or.inr (Or.inl rfl) | exact Or.inr (Or.inr rfl)) (hd : (x == ("__debug__" : Str)) = false := by decide)
    (hcd : (x == ("__classdict__" : Str)) = false := by decide) : QE X W W' (.Name x pos) (dVar i) := PE.imp (pe_var hN hv hd hcd) fun σ H Q ⟨P, w, S, Q', rh, sl, h, hq, _⟩ => by
  obtain ⟨d, q, z⟩ := dVar_get h
  obtain ⟨v, a, b⟩ := sl.2 i d q
  exact ⟨v, a, hq d w z v H P rh.go b⟩
theorem qc {v : V} {d : D} (h : PE X e (tC v)) (r : ∀ P, Rep X.K P d v) : QE X W W' e (dC d) := PE.imp h fun σ H Q ⟨P, w, S, Q', rh, sl, h, hq, _⟩ => hq d w h v H P rh.go (r P)
theorem qe_int {i j pos} : QE X W W' (.Constant (.int i) j pos) (dC (.int i)) := qc pe_int fun _ => .int i
theorem qe_bl {i j pos} : QE X W W' (.Constant (.bool i) j pos) (dC (.bl i)) := qc pe_bl fun _ => .bl i
theorem qe_non {j pos} : QE X W W' (.Constant .none j pos) (dC .non) := qc pe_non fun _ => .non
theorem qe_str {i j pos} : QE X W W' (.Constant (.str i) j pos) (dC (.str i)) := qc pe_str fun _ => .str i
/-- a module's constant -/
theorem qe_glob {x : Str} {v : V} {u : Value} {d : D} (hm : X.mg x = some u) (r : RelV v u) (rr : ∀ P, Rep X.K P d v) (hg : Gl X x := by rfl) (hd : (x == ("__debug__" : Str)) = false := by decide) : QE X W W' (.Name x pos) (dC d) := qc (pe_glob hg hm r hd) rr

/-! ### operators by values -/
abbrev DR2 := D → D → Wd → DKt → Prop
abbrev DR1 := D → Wd → DKt → Prop
abbrev DRl := List D → Wd → DKt → Prop
def TrR2 (K : PySem.W.Frag) (r : R2) (dr : DR2) : Prop := ∀ H P w x y dx dy Q' Q, RH K H P w → Rep K P dx x → Rep K P dy y → dr dx dy w Q' → RetOk K H P w Q' Q → r x y H Q
def TrR1 (K : PySem.W.Frag) (r : V → Hp → VK → Prop) (dr : DR1) : Prop := ∀ H P w x dx Q' Q, RH K H P w → Rep K P dx x → dr dx w Q' → RetOk K H P w Q' Q → r x H Q
def TrRl (K : PySem.W.Frag) (r : List V → Hp → VK → Prop) (dr : DRl) : Prop := ∀ H P w xs ds Q' Q, RH K H P w → RepL K P ds xs → dr ds w Q' → RetOk K H P w Q' Q → r xs H Q
def dOp (dr : DR2) (ta tb : DE) : DE := fun S w Q => ta S w fun x w1 => tb S w1 fun y w2 => dr x y w2 Q
def dUn (dr : DR1) (ta : DE) : DE := fun S w Q => ta S w fun x w1 => dr x w1 Q
def dCB (dr : DRl) (ta : DA) : DE := fun S w Q => ta S w fun xs w1 => dr xs w1 Q
theorem op_imp {r : R2} {dr : DR2} (hr : TrR2 X.K r dr) : ∀ σ H Q, liftE X.K W W' (dOp dr ta tb) σ H Q → tOp r (liftE X.K W W' ta) (liftE X.K W W' tb) σ H Q :=
  fun σ H Q ⟨P, w, S, Q', rh, sl, h, hq, hx⟩ => ⟨P, w, S, _, rh, sl, h, fun x w1 h1 v H1 P1 g1 r1 =>
    ⟨P1, w1, S, _, g1.rh, sl.mono g1.ex, h1, fun y w2 h2 u H2 P2 g2 r2 => hr H2 P2 w2 v u x y Q' Q g2.rh (r1.mono g2.ex) r2 h2 ((hq.go g1).go g2), hx.go g1⟩, hx⟩
theorem qe_op {op : Operator} {r : R2} {dr : DR2} (ho : OpR X (binaryOp op) r) (hr : TrR2 X.K r dr) (ha : QE X W W' a ta) (hb : QE X W W' b tb) : QE X W W' (.BinOp a op b pos) (dOp dr ta tb) := PE.imp (pe_op ho ha hb) (op_imp hr)
theorem qe_un {op : UnaryOp} {r : V → Hp → VK → Prop} {dr : DR1} (ho : UnR X (unaryOp op) r) (hr : TrR1 X.K r dr) (ha : QE X W W' a ta) : QE X W W' (.UnaryOp op a pos) (dUn dr ta) := PE.imp (pe_un ho ha)
  fun σ H Q ⟨P, w, S, Q', rh, sl, h, hq, hx⟩ => ⟨P, w, S, _, rh, sl, h, fun x w1 h1 v H1 P1 g1 r1 => hr H1 P1 w1 v x Q' Q g1.rh r1 h1 (hq.go g1), hx⟩
theorem qe_cmp {op : CmpOp} {r : R2} {dr : DR2} (ho : OpR X (compareOp op) r) (hr : TrR2 X.K r dr) (ha : QE X W W' a ta) (hb : QE X W W' b tb) (hm : behindInMarks op b = false := by first | exact nomark _ | rfl) : QE X W W' (.Compare a [op] [b] pos) (dOp dr ta tb) := PE.imp (pe_cmpR ho ha hb hm) (op_imp hr)
theorem qe_ix {r : R2} {dr : DR2} (ho : IxR X r) (hr : TrR2 X.K r dr) (ha : QE X W W' a ta) (hb : QE X W W' b tb) (hs : PlainIx b := by exact fun _ _ => rfl) : QE X W W' (.Subscript a b pos) (dOp dr ta tb) := PE.imp (pe_ix ho ha hb hs) (op_imp hr)

/-! ### arguments, displays -/
def dNil : DA := fun _ w Q => Q [] w
def dCons (ta : DE) (tr : DA) : DA := fun S w Q => ta S w fun x w1 => tr S w1 fun xs w2 => Q (x :: xs) w2
variable {t : DA}
theorem qa_nil : QA X W W' [] dNil := PA.imp pa_nil fun σ H Q ⟨P, w, S, Q', rh, sl, h, hq, hx⟩ => hq [] w h [] H P rh.go .nil
theorem qa_cons (ha : QE X W W' e te) (hr : QA X W W' es t) (hs : starEach (e :: es) X.env = (false, eval e X.env) :: starEach es X.env := by rfl) : QA X W W' (e :: es) (dCons te t) := PA.imp (pa_cons ha hr hs)
  fun σ H Q ⟨P, w, S, Q', rh, sl, h, hq, hx⟩ => ⟨P, w, S, _, rh, sl, h, fun x w1 h1 v H1 P1 g1 r1 => ⟨P1, w1, S, _, g1.rh, sl.mono g1.ex, h1, fun xs w2 h2 us H2 P2 g2 r2 => hq _ w2 h2 _ H2 P2 (g1.trans g2) (.cons (r1.mono g2.ex) r2), hx.go g1⟩, hx⟩
def dTup (t : DA) : DE := fun S w Q => t S w fun xs w1 => xs.length ≤ sizeLine ∧ Q (.tup xs) w1
def dLst (t : DA) : DE := fun S w Q => t S w fun xs w1 => xs.length ≤ sizeLine ∧ Q (.lst xs) w1
/-- a list that will be changed -/
def dLstO (t : DA) : DE := fun S w Q => t S w fun xs w1 => xs.length ≤ sizeLine ∧ ∀ p, w1 p = none → Q (.ref p) (put w1 p (.lst xs))
theorem qe_tup {x1} (h : QA X W W' es t) : QE X W W' (.Tuple es x1 pos) (dTup t) := PE.imp (pe_tup h)
  fun σ H Q ⟨P, w, S, Q', rh, sl, h, hq, hx⟩ => ⟨P, w, S, _, rh, sl, h, fun xs w1 h1 vs H1 P1 g1 r1 => ⟨by rw [r1.length]; exact h1.1, fun p hp =>
    have g2 := g1.rh.newP (o := .tup vs) hp
    hq _ w1 h1.2 _ _ _ (g1.trans g2) (.tup upd_same (r1.mono g2.ex))⟩, hx⟩
theorem qe_lst (h : QA X W W' es t) : QE X W W' (.List es pos) (dLst t) := PE.imp (pe_lst h)
  fun σ H Q ⟨P, w, S, Q', rh, sl, h, hq, hx⟩ => ⟨P, w, S, _, rh, sl, h, fun xs w1 h1 vs H1 P1 g1 r1 => ⟨by rw [r1.length]; exact h1.1, fun p hp =>
    have g2 := g1.rh.newP (o := .lst vs) hp
    hq _ w1 h1.2 _ _ _ (g1.trans g2) (.lst upd_same (r1.mono g2.ex))⟩, hx⟩
theorem qe_lstO (h : QA X W W' es t) : QE X W W' (.List es pos) (dLstO t) := PE.imp (pe_lst h)
  fun σ H Q ⟨P, w, S, Q', rh, sl, h, hq, hx⟩ => ⟨P, w, S, _, rh, sl, h, fun xs w1 h1 vs H1 P1 g1 r1 => ⟨by rw [r1.length]; exact h1.1, fun p hp =>
    have g2 := g1.rh.newW (o := .lst vs) (n := .lst xs) hp ⟨vs, rfl, r1⟩
    hq _ _ (h1.2 p (g1.rh.free hp).2) _ _ _ (g1.trans g2) (.ref p)⟩, hx⟩

/-! ### tests -/
def dB (t : DE) : DT := fun S w Q => t S w fun x w1 => match x with
  | .bl c => Q c w1
  | _ => False
def dAnd (t u : DT) : DT := fun S w Q => t S w fun c w1 => if c = true then u S w1 Q else Q false w1
def dOr (t u : DT) : DT := fun S w Q => t S w fun c w1 => if c = true then Q true w1 else u S w1 Q
def dNot (t : DT) : DT := fun S w Q => t S w fun c w1 => Q (!c) w1
variable {tA tB' : DT} {rest : List Expr}
theorem qt_val (h : QE X W W' e te) (he : ∀ whole, isTrue e X.env whole = (do let v ← whole; standAt e.pos; holding [v] (truthy v)) := by intro _; rfl) : QT X W W' e (dB te) := PT.imp (pt_val h he)
  fun σ H Q ⟨P, w, S, Q', rh, sl, h, hq, hx⟩ => ⟨P, w, S, _, rh, sl, h, fun x w1 h1 v H1 P1 g1 r1 => by
    cases r1 with
    | bl b => exact ⟨b, rfl, hq b w1 h1 H1 P1 g1⟩
    | _ => exact h1.elim, hx⟩
theorem qt_cmp {op : CmpOp} {r : R2} {dr : DR2} (ho : OpR X (compareOp op) r) (hr : TrR2 X.K r dr) (ha : QE X W W' a ta) (hb : QE X W W' b tb) (hm : behindInMarks op b = false := by first | exact nomark _ | rfl) : QT X W W' (.Compare a [op] [b] pos) (dB (dOp dr ta tb)) :=
  PT.imp (pt_cmpR ho ha hb hm) fun σ H Q ⟨P, w, S, Q', rh, sl, h, hq, hx⟩ => op_imp hr σ H (fun x H' => ∃ k, x = V.bl k ∧ Q k H') ⟨P, w, S, _, rh, sl, h, fun x w1 h1 v H1 P1 g1 r1 => by
    cases r1 with
    | bl b => exact ⟨b, rfl, hq b w1 h1 H1 P1 g1⟩
    | _ => exact h1.elim, hx⟩
theorem qw_and1 (ha : QT X W W' a tA) : QW X W W' (.BoolOp .And [a] pos) tA := pw_and1 ha
theorem qw_or1 (ha : QT X W W' a tA) : QW X W W' (.BoolOp .Or [a] pos) tA := pw_or1 ha
theorem ite_imp {c : Bool} {A B A' B' : Prop} (h : if c = true then A else B) (h1 : A → A') (h2 : B → B') : if c = true then A' else B' := by
  cases c with
  | true => exact h1 h
  | false => exact h2 h
theorem qw_and (ha : QT X W W' a tA) (hb : QW X W W' (.BoolOp .And (b :: rest) pos) tB') : QW X W W' (.BoolOp .And (a :: b :: rest) pos) (dAnd tA tB') := PW.imp (pw_and ha hb)
  fun σ H Q ⟨P, w, S, Q', rh, sl, h, hq, hx⟩ => ⟨P, w, S, _, rh, sl, h, fun c w1 h1 H1 P1 g1 => ite_imp h1 (fun z => ⟨P1, w1, S, Q', g1.rh, sl.mono g1.ex, z, hq.go g1, hx.go g1⟩) (fun z => hq false w1 z H1 P1 g1), hx⟩
theorem qw_or (ha : QT X W W' a tA) (hb : QW X W W' (.BoolOp .Or (b :: rest) pos) tB') : QW X W W' (.BoolOp .Or (a :: b :: rest) pos) (dOr tA tB') := PW.imp (pw_or ha hb)
  fun σ H Q ⟨P, w, S, Q', rh, sl, h, hq, hx⟩ => ⟨P, w, S, _, rh, sl, h, fun c w1 h1 H1 P1 g1 => ite_imp h1 (fun z => hq true w1 z H1 P1 g1) (fun z => ⟨P1, w1, S, Q', g1.rh, sl.mono g1.ex, z, hq.go g1, hx.go g1⟩), hx⟩
theorem qt_bool (h : QW X W W' e tA) : QT X W W' e tA := PW.pt h
theorem qt_not (ha : QT X W W' a tA) : QT X W W' (.UnaryOp .Not a pos) (dNot tA) := PT.imp (pt_not ha)
  fun σ H Q ⟨P, w, S, Q', rh, sl, h, hq, hx⟩ => ⟨P, w, S, _, rh, sl, h, fun c w1 h1 H1 P1 g1 => hq (!c) w1 h1 H1 P1 g1, hx⟩
def dAndV (ta tb : DE) : DE := fun S w Q => ta S w fun x w1 => match x with
  | .bl c => if c = true then tb S w1 Q else Q (.bl false) w1
  | _ => False
def dOrV (ta tb : DE) : DE := fun S w Q => ta S w fun x w1 => match x with
  | .bl c => if c = true then Q (.bl true) w1 else tb S w1 Q
  | _ => False
def dNotV (ta : DE) : DE := fun S w Q => ta S w fun x w1 => match x with
  | .bl c => Q (.bl (!c)) w1
  | _ => False
theorem qe_one {op} (h : QE X W W' a ta) : QE X W W' (.BoolOp op [a] pos) ta := pe_one h
theorem qe_and (ha : QE X W W' a ta) (hb : QE X W W' (.BoolOp .And (b :: rest) pos) tb) : QE X W W' (.BoolOp .And (a :: b :: rest) pos) (dAndV ta tb) := PE.imp (pe_and ha hb)
  fun σ H Q ⟨P, w, S, Q', rh, sl, h, hq, hx⟩ => ⟨P, w, S, _, rh, sl, h, fun x w1 h1 v H1 P1 g1 r1 => by
    cases r1 with
    | bl b => exact ⟨b, rfl, ite_imp h1 (fun z => ⟨P1, w1, S, Q', g1.rh, sl.mono g1.ex, z, hq.go g1, hx.go g1⟩) (fun z => hq _ w1 z _ H1 P1 g1 (.bl false))⟩
    | _ => exact h1.elim, hx⟩
theorem qe_or (ha : QE X W W' a ta) (hb : QE X W W' (.BoolOp .Or (b :: rest) pos) tb) : QE X W W' (.BoolOp .Or (a :: b :: rest) pos) (dOrV ta tb) := PE.imp (pe_or ha hb)
  fun σ H Q ⟨P, w, S, Q', rh, sl, h, hq, hx⟩ => ⟨P, w, S, _, rh, sl, h, fun x w1 h1 v H1 P1 g1 r1 => by
    cases r1 with
    | bl b => exact ⟨b, rfl, ite_imp h1 (fun z => hq _ w1 z _ H1 P1 g1 (.bl true)) (fun z => ⟨P1, w1, S, Q', g1.rh, sl.mono g1.ex, z, hq.go g1, hx.go g1⟩)⟩
    | _ => exact h1.elim, hx⟩
theorem qe_not (ha : QE X W W' a ta) : QE X W W' (.UnaryOp .Not a pos) (dNotV ta) := PE.imp (pe_not ha)
  fun σ H Q ⟨P, w, S, Q', rh, sl, h, hq, hx⟩ => ⟨P, w, S, _, rh, sl, h, fun x w1 h1 v H1 P1 g1 r1 => by
    cases r1 with
    | bl b => exact ⟨b, rfl, hq _ w1 h1 _ H1 P1 g1 (.bl _)⟩
    | _ => exact h1.elim, hx⟩
def dIfE (t : DT) (ta tb : DE) : DE := fun S w Q => t S w fun c w1 => if c = true then ta S w1 Q else tb S w1 Q
theorem qe_if (hc : QT X W W' c tA) (ha : QE X W W' a ta) (hb : QE X W W' b tb) : QE X W W' (.IfExp c a b pos) (dIfE tA ta tb) := PE.imp (pe_ifExp hc ha hb)
  fun σ H Q ⟨P, w, S, Q', rh, sl, h, hq, hx⟩ => ⟨P, w, S, _, rh, sl, h, fun c w1 h1 H1 P1 g1 => ite_imp h1 (fun z => ⟨P1, w1, S, Q', g1.rh, sl.mono g1.ex, z, hq.go g1, hx.go g1⟩) (fun z => ⟨P1, w1, S, Q', g1.rh, sl.mono g1.ex, z, hq.go g1, hx.go g1⟩), hx⟩
/-- a < b < c -/
def dChain (dr dr' : DR2) (ta tb tc : DE) : DE := fun S w Q => ta S w fun x w1 => tb S w1 fun y w2 => dr x y w2 fun z w3 => match z with
  | .bl k => if k = true then tc S w3 fun u w4 => dr' y u w4 Q else Q (.bl false) w3
  | _ => False
theorem chain_imp {r r' : R2} {dr dr' : DR2} (hr : TrR2 X.K r dr) (hr' : TrR2 X.K r' dr') : ∀ σ H Q, liftE X.K W W' (dChain dr dr' ta tb tc) σ H Q → tChain r r' (liftE X.K W W' ta) (liftE X.K W W' tb) (liftE X.K W W' tc) σ H Q :=
  fun σ H Q ⟨P, w, S, Q', rh, sl, h, hq, hx⟩ => ⟨P, w, S, _, rh, sl, h, fun x w1 h1 v H1 P1 g1 r1 =>
    ⟨P1, w1, S, _, g1.rh, sl.mono g1.ex, h1, fun y w2 h2 u H2 P2 g2 r2 => hr H2 P2 w2 v u x y _ _ g2.rh (r1.mono g2.ex) r2 h2 (fun z w3 h3 vz H3 P3 g3 r3 => by
      cases r3 with
      | bl k =>
        refine ⟨k, rfl, ite_imp h3 (fun q => ?_) (fun q => hq _ w3 q _ H3 P3 ((g1.trans g2).trans g3) (.bl false))⟩
        exact ⟨P3, w3, S, _, g3.rh, sl.mono ((g1.trans g2).trans g3).ex, q, fun c4 w4 h4 v4 H4 P4 g4 r4 => hr' H4 P4 w4 u v4 y c4 Q' Q g4.rh (r2.mono (g3.trans g4).ex) r4 h4 (hq.go (((g1.trans g2).trans g3).trans g4)), hx.go ((g1.trans g2).trans g3)⟩
      | _ => exact h3.elim), hx.go g1⟩, hx⟩
theorem qe_chain {op op' : CmpOp} {r r' : R2} {dr dr' : DR2} (ho : OpR X (compareOp op) r) (hr : TrR2 X.K r dr) (ho' : OpR X (compareOp op') r') (hr' : TrR2 X.K r' dr') (ha : QE X W W' a ta) (hb : QE X W W' b tb) (hc : QE X W W' c tc)
    (hm : lastMarks [op, op'] [b, c] = false := by with_unfolding_all rfl) : QE X W W' (.Compare a [op, op'] [b, c] pos) (dChain dr dr' ta tb tc) := PE.imp (pe_chain ho ho' ha hb hc hm) (chain_imp hr hr')
theorem qt_chain {op op' : CmpOp} {r r' : R2} {dr dr' : DR2} (ho : OpR X (compareOp op) r) (hr : TrR2 X.K r dr) (ho' : OpR X (compareOp op') r') (hr' : TrR2 X.K r' dr') (ha : QE X W W' a ta) (hb : QE X W W' b tb) (hc : QE X W W' c tc)
    (hm : lastMarks [op, op'] [b, c] = false := by with_unfolding_all rfl) : QT X W W' (.Compare a [op, op'] [b, c] pos) (dB (dChain dr dr' ta tb tc)) := PT.imp (pt_chain ho ho' ha hb hc hm)
  fun σ H Q ⟨P, w, S, Q', rh, sl, h, hq, hx⟩ => chain_imp hr hr' σ H (fun x H' => ∃ k, x = V.bl k ∧ Q k H') ⟨P, w, S, _, rh, sl, h, fun x w1 h1 v H1 P1 g1 r1 => by
    cases r1 with
    | bl b => exact ⟨b, rfl, hq b w1 h1 H1 P1 g1⟩
    | _ => exact h1.elim, hx⟩
end
end TD

set_option maxHeartbeats 2000000
namespace TD
open PySem PySem.Spec PyProof.Rows L2
section
variable {X : Cx} {W : WX} {W' : DWX} {a b c e : Expr} {es : List Expr} {ta tb tc te : DE} {pos : Pos} {t : DA}
/-! ### calls of own defs -/
def dCall (sp : DSp) (W' : DWX) (t : DA) : DE := fun S w Q => t S w fun ds w1 => sp ds w1 Q (fun x d w2 => W' x d S w2)
theorem call_imp {sp : DSp} {σ : St} {H P : Hp} {w : Wd} {S : DSt} {Q' : DKt} {Q : VK} {ds : List D} {vs : List V} {H1 P1 : Hp} {w1 : Wd} (g : Go X.K H P w H1 P1 w1) (sl : Slots X.K P S σ) (hq : RetOk X.K H P w Q' Q) (hx : WOk X.K H P w W' W) (r : RepL X.K P1 ds vs)
    (h : sp ds w1 Q' (fun x d w2 => W' x d S w2)) : lift X.K sp vs H1 Q (WE W σ) :=
  ⟨P1, w1, ds, Q', fun x d w2 => W' x d S w2, g.rh, r, h, hq.go g, fun c x w2 q dd H2 P2 g2 z => hx c x S w2 q dd σ H2 P2 (g.trans g2) (sl.mono (g.trans g2).ex) z⟩
theorem qe_call {sp : DSp} {k : Nat} {f : Addr} {fd : FuncData} {ps : List Str} {x : Str} {p : Pos} (F : FnOk X.prog X.w X.K X.mg X.base (L2N.CX X.prog X.w) k f fd ps (lift X.K sp)) (hr : Room k X.A) (hm : X.mg x = some (.ref f)) (hk : PySem.W.keepIn X.K (.ref f) = true) (hb : Binds X.K fd ps []) (tk : L2N.Takes X W)
    (ha : QA X W W' (e :: es) t) (hg : Gl X x := by rfl) (hdb : (x == ("__debug__" : Str)) = false := by decide) (he : starEach (e :: es) X.env = (false, eval e X.env) :: starEach es X.env := by rfl) (hpl : (backTo pos (starEach es X.env)).any (·.1) = false := by rfl) :
    QE X W W' (.Call (.Name x p) (e :: es) [] pos) (dCall sp W' t) := PE.imp (pe_callS F hr hg hm hk hb (fun σ => L2N.passAt tk σ) ha hdb he hpl)
  fun σ H Q ⟨P, w, S, Q', rh, sl, h, hq, hx⟩ => ⟨P, w, S, _, rh, sl, h, fun ds w1 h1 vs H1 P1 g1 r1 => call_imp g1 sl hq hx r1 h1, hx⟩
/-- a builtin by its name -/
theorem qe_callB {id : String} {r : List V → Hp → VK → Prop} {dr : DRl} {x : Str} {p : Pos} (hc : CallR X (.builtin id) r) (hr : TrRl X.K r dr) (hm : X.mg x = none) (hv : bootBuiltins x = some (.builtin id)) (ha : QA X W W' (e :: es) t) (hg : Gl X x := by rfl) (hn : x ≠ "__name__" := by decide) (hdb : (x == ("__debug__" : Str)) = false := by decide)
    (he : starEach (e :: es) X.env = (false, eval e X.env) :: starEach es X.env := by rfl) (hpl : (backTo pos (starEach es X.env)).any (·.1) = false := by rfl) : QE X W W' (.Call (.Name x p) (e :: es) [] pos) (dCB dr t) := PE.imp (pe_callB hc hg hm hv ha hn hdb he hpl)
  fun σ H Q ⟨P, w, S, Q', rh, sl, h, hq, hx⟩ => ⟨P, w, S, _, rh, sl, h, fun ds w1 h1 vs H1 P1 g1 r1 => hr H1 P1 w1 vs ds Q' Q g1.rh r1 h1 (hq.go g1), hx⟩
theorem qe_callTy {T : String} {r : List V → Hp → VK → Prop} {dr : DRl} {x : Str} {p : Pos} (hc : CallR X (.type T) r) (hr : TrRl X.K r dr) (hm : X.mg x = none) (hv : bootBuiltins x = some (.type T)) (ha : QA X W W' (e :: es) t) (hg : Gl X x := by rfl) (hn : x ≠ "__name__" := by decide) (hdb : (x == ("__debug__" : Str)) = false := by decide)
    (he : starEach (e :: es) X.env = (false, eval e X.env) :: starEach es X.env := by rfl) (hpl : (backTo pos (starEach es X.env)).any (·.1) = false := by rfl) : QE X W W' (.Call (.Name x p) (e :: es) [] pos) (dCB dr t) := PE.imp (pe_callTy hc hg hm hv ha hn hdb he hpl)
  fun σ H Q ⟨P, w, S, Q', rh, sl, h, hq, hx⟩ => ⟨P, w, S, _, rh, sl, h, fun ds w1 h1 vs H1 P1 g1 r1 => hr H1 P1 w1 vs ds Q' Q g1.rh r1 h1 (hq.go g1), hx⟩
/-- a builtin's method -/
abbrev DRm := D → List D → Wd → DKt → Prop
def TrRm (K : PySem.W.Frag) (T : String) (r : V → List V → Hp → VK → Prop) (dr : DRm) : Prop := ∀ H P w x xs dx ds Q' Q, RH K H P w → Rep K P dx x → RepL K P ds xs → dr dx ds w Q' → RetOk K H P w Q' Q → r x xs H Q
def dTyOk (T : String) (w : Wd) : D → Prop
  | .str _ => T = "str"
  | .lst _ => T = "list"
  | .rol _ => T = "list"
  | .tup _ => T = "tuple"
  | .rot _ => T = "tuple"
  | .ref a => match w a with
    | some (.lst _) => T = "list"
    | _ => False
  | _ => False
def dBM (T : String) (dr : DRm) (to : DE) (t : DA) : DE := fun S w Q => to S w fun x w1 => dTyOk T w1 x ∧ t S w1 fun ds w2 => dr x ds w2 Q
def dBM0 (T : String) (dr : DRm) (to : DE) : DE := fun S w Q => to S w fun x w1 => dTyOk T w1 x ∧ dr x [] w1 Q
end
/-! ### statements -/
section
variable {X : Cx} {W : WX} {W' : DWX} {a b c e : Expr} {ta tb tc te : DE} {pos pos' : Pos} {st : Stmt} {rest bs cs : List Stmt} {t u : DS} {tt : DT}
def dNext : DS := fun D S w => D.nx S w
def dSeq (t u : DS) : DS := fun D S w => t { D with nx := u D } S w
theorem qss_nil : QSs X W W' [] dNext := PSs.imp pss_nil fun D σ H ⟨P, w, S, D', rh, sl, h, hd, hx⟩ => hd.nx S w h σ H P rh.go sl
theorem qss_cons (h1 : QS X W W' st t) (h2 : QSs X W W' rest u) : QSs X W W' (st :: rest) (dSeq t u) := PSs.imp (pss_cons h1 h2)
  fun D σ H ⟨P, w, S, D', rh, sl, h, hd, hx⟩ => ⟨P, w, S, { D' with nx := u D' }, rh, sl, h, ⟨fun S1 w1 h1 σ1 H1 P1 g1 sl1 => ⟨P1, w1, S1, D', g1.rh, sl1, h1, hd.go g1, hx.go g1⟩, hd.rt, hd.bk, hd.ct⟩, hx⟩
/-- .. with a word between them, from which what follows is shown once -/
def dCut (t u : DS) : DS := fun D S w => ∃ M : DSt → Wd → Prop, t { D with nx := M } S w ∧ ∀ S2 w2, M S2 w2 → u D S2 w2
theorem qss_cut (h1 : QS X W W' st t) (h2 : QSs X W W' rest u) : QSs X W W' (st :: rest) (dCut t u) := PSs.imp (pss_cons h1 h2)
  fun D σ H ⟨P, w, S, D', rh, sl, ⟨M, h, hM⟩, hd, hx⟩ => ⟨P, w, S, { D' with nx := M }, rh, sl, h, ⟨fun S1 w1 h1 σ1 H1 P1 g1 sl1 => ⟨P1, w1, S1, D', g1.rh, sl1, hM S1 w1 h1, hd.go g1, hx.go g1⟩, hd.rt, hd.bk, hd.ct⟩, hx⟩
theorem qss_one (h1 : QS X W W' st t) : QSs X W W' [st] t := pss_one h1
/-- a node of the store becomes plain data ahead of a statement -/
def frzD : Nd → Option D
  | .lst xs => some (.lst xs)
  | .dK kvs => some (.dct (kvs.map (·.1)) (kvs.map (·.2)))
  | .dT kvs => some (.dtt (kvs.map (·.1)) (kvs.map (·.2)))
  | .ins C fs => some (.obj C (fs.map (·.1)) (fs.map (·.2)))
  | _ => none
theorem KVr.parts {K : PySem.W.Frag} {P : Hp} {κ : Type} : ∀ {l : List (κ × D)} {m : List (κ × V)}, KVr K P l m → m.map (·.1) = l.map (·.1) ∧ RepL K P (l.map (·.2)) (m.map (·.2))
  | _, _, .nil => ⟨rfl, .nil⟩
  | _, _, .cons h r => by
    obtain ⟨h1, h2⟩ := KVr.parts r
    exact ⟨by rw [List.map_cons, List.map_cons, h1, h.1], .cons h.2 h2⟩
theorem frz_rep {K : PySem.W.Frag} {H P : Hp} {w : Wd} {p : Addr} {n : Nd} {d : D} (rh : RH K H P w) (h : w p = some n) (hd : frzD n = some d) : ∃ ho, H p = some ho ∧ Rep K (upd P p ho) d (.ref p) := by
  obtain ⟨hp, ho, h1, h2⟩ := rh.own p n h
  have e : Ex P (upd P p ho) := Ex.new hp
  refine ⟨ho, h1, ?_⟩
  cases n with
  | lst xs => obtain ⟨vs, rfl, r⟩ := h2; cases hd; exact .lst upd_same (r.mono e)
  | dK kvs =>
    obtain ⟨vs, rfl, r⟩ := h2; cases hd
    obtain ⟨q1, q2⟩ := KVr.parts (KVr.mono e r)
    rw [← q1]; exact .dct upd_same q2
  | dT kvs =>
    obtain ⟨vs, rfl, r⟩ := h2; cases hd
    obtain ⟨q1, q2⟩ := KVr.parts (KVr.mono e r)
    rw [← q1]; exact .dtt upd_same q2
  | ins C fs =>
    obtain ⟨dx, gs, rfl, r, ow⟩ := h2; cases hd
    obtain ⟨q1, q2⟩ := KVr.parts (KVr.mono e r)
    rw [← q1]; exact .obj upd_same (e _ _ ow) q2
  | lkK o u kvs => cases hd
  | lkT o u kvs => cases hd
def dFrz (i : Nat) (t : DS) : DS := fun D S w => match S[i]? with
  | some (some (.ref p)) => match (w p).bind frzD with
    | some d => t D (S.set i (some d)) (rid w p)
    | none => False
  | _ => False
theorem frz_imp {K : PySem.W.Frag} {W : WX} {W' : DWX} {i : Nat} : ∀ D σ H, liftS K W W' (dFrz i t) D σ H → liftS K W W' t D σ H := fun D σ H ⟨P, w, S, D', rh, sl, h, hd, hx⟩ => by
  unfold dFrz at h
  split at h
  · rename_i p hp
    split at h
    · rename_i d hd'
      cases hw : w p with
      | none => rw [hw] at hd'; cases hd'
      | some n =>
        rw [hw] at hd'
        obtain ⟨ho, h1, h2⟩ := frz_rep rh hw hd'
        have g := rh.frz hw h1
        exact ⟨_, _, _, D', g.rh, (sl.mono g.ex).retell i hp (fun v r => by cases r; exact h2), h, hd.go g, hx.go g⟩
    · exact h.elim
  · exact h.elim
theorem qs_frz (i : Nat) (h : QS X W W' st t) : QS X W W' st (dFrz i t) := PS.imp h frz_imp
theorem qss_frz (i : Nat) (h : QSs X W W' bs t) : QSs X W W' bs (dFrz i t) := PSs.imp h frz_imp
def dBreak : DS := fun D S w => D.bk S w
def dCont : DS := fun D S w => D.ct S w
theorem qs_pass : QS X W W' (.Pass pos) dNext := PS.imp ps_pass fun D σ H ⟨P, w, S, D', rh, sl, h, hd, hx⟩ => hd.nx S w h σ H P rh.go sl
theorem qs_break : QS X W W' (.Break pos) dBreak := PS.imp ps_break fun D σ H ⟨P, w, S, D', rh, sl, h, hd, hx⟩ => hd.bk S w h σ H P rh.go sl
theorem qs_cont : QS X W W' (.Continue pos) dCont := PS.imp ps_continue fun D σ H ⟨P, w, S, D', rh, sl, h, hd, hx⟩ => hd.ct S w h σ H P rh.go sl
def dDrop (te : DE) : DS := fun D S w => te S w fun _ w1 => D.nx S w1
theorem qs_expr (he : QE X W W' e te) (hs : swapsWith e none pos.line X.env = pure false := by rfl) : QS X W W' (.Expr e pos) (dDrop te) := PS.imp (ps_expr he hs)
  fun D σ H ⟨P, w, S, D', rh, sl, h, hd, hx⟩ => ⟨P, w, S, _, rh, sl, h, fun d w1 h1 v H1 P1 g1 r1 => hd.nx S w1 h1 σ H1 P1 g1 (sl.mono g1.ex), hx⟩
def dRet (te : DE) : DS := fun D S w => te S w D.rt
theorem qs_ret (he : QE X W W' e te) : QS X W W' (.Return (some e) pos) (dRet te) := PS.imp (ps_ret he)
  fun D σ H ⟨P, w, S, D', rh, sl, h, hd, hx⟩ => ⟨P, w, S, D'.rt, rh, sl, h, hd.rt, hx⟩
def dRetN : DS := fun D _ w => D.rt .non w
theorem qs_retN : QS X W W' (.Return none pos) dRetN := PS.imp ps_retN fun D σ H ⟨P, w, S, D', rh, sl, h, hd, hx⟩ => hd.rt .non w h .non H P rh.go .non
def dIf (c : DT) (t u : DS) : DS := fun D S w => c S w fun b w1 => if b = true then t D S w1 else u D S w1
theorem qs_if (hc : QT X W W' c tt) (ha : QSs X W W' bs t) (hb : QSs X W W' cs u) : QS X W W' (.If c bs cs pos) (dIf tt t u) := PS.imp (ps_if hc ha hb)
  fun D σ H ⟨P, w, S, D', rh, sl, h, hd, hx⟩ => ⟨P, w, S, _, rh, sl, h, fun b w1 h1 H1 P1 g1 => ite_imp h1 (fun z => ⟨P1, w1, S, D', g1.rh, sl.mono g1.ex, z, hd.go g1, hx.go g1⟩) (fun z => ⟨P1, w1, S, D', g1.rh, sl.mono g1.ex, z, hd.go g1, hx.go g1⟩), hx⟩
/-- a name = e -/
def dAsg (te : DE) (i : Nat) : DS := fun D S w => te S w fun d w1 => D.nx (S.set i (some d)) w1
theorem asg_imp {i : Nat} : ∀ D σ H, liftS X.K W W' (dAsg te i) D σ H → tAsg (liftE X.K W W' te) (gName i) D σ H :=
  fun D σ H ⟨P, w, S, D', rh, sl, h, hd, hx⟩ => ⟨P, w, S, _, rh, sl, h, fun d w1 h1 v H1 P1 g1 r1 => hd.nx _ w1 h1 _ H1 P1 g1 ((sl.mono g1.ex).set i r1), hx⟩
theorem qs_set {i : Nat} {x : Str} (hN : X.N.Nodup) (he : QE X W W' e te) (hi : X.N[i]? = some x := by rfl) (hx : Loc X.env.scope x := by first | exact Or.inl rfl | exact Or.inr rfl) (hs : swapsWith e (some (.Name x pos')) pos.line X.env = pure false := by rfl)
    (hf : X.fn x = true ∨ X.env.scope.names.lookup x = some .local := by first | exact .inl rfl | exact .inr rfl | assumption) : QS X W W' (.Assign [.Name x pos'] e pos) (dAsg te i) := PS.imp (ps_set hN hi hx he hs hf) asg_imp
/-- targets -/
abbrev DG := D → DSt → Wd → (DSt → Wd → Prop) → Prop
abbrev DGs := List D → DSt → Wd → (DSt → Wd → Prop) → Prop
def liftG (K : PySem.W.Frag) (g : DG) : TG := fun v σ H N => ∃ P w S d N', RH K H P w ∧ Slots K P S σ ∧ Rep K P d v ∧ g d S w N' ∧ StOk K H P w N' N
def QG (X : Cx) (tg : Expr) (g : DG) : Prop := PG X tg (liftG X.K g)
theorem PG.imp {tg : Expr} {g h : TG} (p : PG X tg g) (k : ∀ v σ H N, h v σ H N → g v σ H N) : PG X tg h := ⟨fun pins s σ H v u Q I r q => p.run pins s σ H v u Q I r (k v σ H Q q)⟩
def dgName (i : Nat) : DG := fun d S w N => N (S.set i (some d)) w
theorem qg_name {i : Nat} {x : Str} (hN : X.N.Nodup) (hi : X.N[i]? = some x := by rfl) (hx : Loc X.env.scope x := by first | exact Or.inl rfl | exact Or.inr rfl) (hf : X.fn x = true ∨ X.env.scope.names.lookup x = some .local := by first | exact .inl rfl | exact .inr rfl | assumption) : QG X (.Name x pos) (dgName i) := PG.imp (pg_name hN hi hx hf)
  fun v σ H N ⟨P, w, S, d, N', rh, sl, r, h, hn⟩ => hn _ w h _ H P rh.go (sl.set i r)
/-- (x, y, ..), all of them names -/
def gNms : List Nat → TGs
  | [] => gNil
  | i :: r => gCons (gName i) (gNms r)
def setAll : DSt → List Nat → List D → DSt
  | S, i :: r, d :: ds => setAll (S.set i (some d)) r ds
  | S, _, _ => S
def setAllV : St → List Nat → List V → St
  | S, i :: r, d :: ds => setAllV (S.set i (some d)) r ds
  | S, _, _ => S
theorem gNms_of : ∀ (js : List Nat) (vs : List V) (σ : St) (H : Hp) (N : St → Hp → Prop), vs.length = js.length → N (setAllV σ js vs) H → gNms js vs σ H N
  | [], vs, σ, H, N, hl, h => ⟨List.eq_nil_of_length_eq_zero hl, h⟩
  | j :: r, [], σ, H, N, hl, h => by cases hl
  | j :: r, v :: vs, σ, H, N, hl, h => ⟨v, vs, rfl, gNms_of r vs _ H N (by simpa using hl) h⟩
theorem Slots.setAll {K : PySem.W.Frag} {P : Hp} : ∀ (js : List Nat) (ds : List D) (vs : List V) (S : DSt) (σ : St), Slots K P S σ → RepL K P ds vs → Slots K P (TD.setAll S js ds) (setAllV σ js vs)
  | [], ds, vs, S, σ, h, r => by cases ds <;> cases vs <;> exact h
  | j :: r, _, _, S, σ, h, .nil => h
  | j :: js, _, _, S, σ, h, .cons q r => Slots.setAll js _ _ _ _ (h.set j q) r
def dgTup (js : List Nat) : DG := fun d S w N => match d with
  | .tup ds => ds.length = js.length ∧ N (setAll S js ds) w
  | _ => False
theorem gtup_imp {js : List Nat} {n : Nat} (hn : n = js.length) : ∀ v σ H N, liftG X.K (dgTup js) v σ H N → gTup X.K n (gNms js) v σ H N := fun v σ H N ⟨P, w, S, d, N', rh, sl, r, h, hn'⟩ => by
  cases r with
  | tup q r =>
    refine ⟨_, _, rfl, SqT.of (rh.per _ _ q), by rw [r.length, h.1, hn], gNms_of js _ _ _ _ (by rw [r.length, h.1]) ?_⟩
    exact hn' _ w h.2 _ H P rh.go (Slots.setAll js _ _ _ _ sl r)
  | _ => exact h.elim
theorem qg_tup {es : List Expr} {k : Nat} {js : List Nat} (hc : X.calm = true) (h : PGs X es (gNms js)) (hn : (assignEach es X.env).length = js.length := by rfl) (hst : (assignEach es X.env).findIdx? (·.1) = none := by rfl) : QG X (.Tuple es k pos) (dgTup js) :=
  PG.imp (pg_tup hc h hn hst) (gtup_imp rfl)
def dAsgG (te : DE) (g : DG) : DS := fun D S w => te S w fun d w1 => g d S w1 D.nx
theorem qs_asg {tg : Expr} {g : DG} (he : QE X W W' e te) (hg : QG X tg g) (hs : swapsWithSole [tg] e pos.line X.env = pure false := by rfl) (hw : swappedStores [tg] e X.env = pure none := by rfl) (h1 : (assignEach [tg] X.env).map (·.2) = [assign tg X.env] := by rfl) : QS X W W' (.Assign [tg] e pos) (dAsgG te g) := PS.imp (ps_asg he hg hs hw h1)
  fun D σ H ⟨P, w, S, D', rh, sl, h, hd, hx⟩ => ⟨P, w, S, _, rh, sl, h, fun d w1 h1 v H1 P1 g1 r1 => ⟨P1, w1, S, d, D'.nx, g1.rh, sl.mono g1.ex, r1, h1, hd.nx.go g1⟩, hx⟩
/-- x += e, two ints -/
def dAug (i : Nat) (te : DE) (f : Int → Int → Int) : DS := fun D S w => match S[i]? with
  | some (some (.int x)) => te S w fun d w1 => match d with
    | .int y => D.nx (S.set i (some (.int (f x y)))) w1
    | _ => False
  | _ => False
theorem aug_imp {i : Nat} {f : Int → Int → Int} : ∀ D σ H, liftS X.K W W' (dAug i te f) D σ H → tAug i (liftE X.K W W' te) (ipI f) D σ H := fun D σ H ⟨P, w, S, D', rh, sl, h, hd, hx⟩ => by
  unfold dAug at h
  split at h
  · rename_i x hs
    obtain ⟨v, h1, h2⟩ := sl.2 i _ hs
    cases h2
    refine ⟨_, h1, P, w, S, _, rh, sl, h, fun d w1 q v H1 P1 g1 r1 => ?_, hx⟩
    cases r1 with
    | int y => exact ⟨x, y, rfl, rfl, hd.nx _ w1 q _ H1 P1 g1 ((sl.mono g1.ex).set i (.int _))⟩
    | _ => exact q.elim
  · exact h.elim
theorem qs_augAdd {i : Nat} {x : Str} (hN : X.N.Nodup) (he : QE X W W' e te) (hi : X.N[i]? = some x := by rfl) (hx : Loc X.env.scope x := by first | exact Or.inl rfl | exact Or.inr rfl)
    (hf : X.fn x = true ∨ X.env.scope.names.lookup x = some .local := by first | exact .inl rfl | exact .inr rfl | assumption) : QS X W W' (.AugAssign (.Name x pos') .Add e pos) (dAug i te fun x y => x + y) := PS.imp (ps_aug hN hi hx he ip_add hf) aug_imp
theorem qs_augSub {i : Nat} {x : Str} (hN : X.N.Nodup) (he : QE X W W' e te) (hi : X.N[i]? = some x := by rfl) (hx : Loc X.env.scope x := by first | exact Or.inl rfl | exact Or.inr rfl)
    (hf : X.fn x = true ∨ X.env.scope.names.lookup x = some .local := by first | exact .inl rfl | exact .inr rfl | assumption) : QS X W W' (.AugAssign (.Name x pos') .Sub e pos) (dAug i te fun x y => x - y) := PS.imp (ps_aug hN hi hx he ip_sub hf) aug_imp

/-! ### loops -/
def dWhile (c : DT) (tb : DS) : DS := fun D S w => ∃ Iv : Nat → DSt → Wd → Prop, (∃ m, Iv m S w) ∧ ∀ m S w, Iv m S w → c S w fun b w1 => if b = true then tb { D with nx := fun S2 w2 => ∃ m', m' < m ∧ Iv m' S2 w2, ct := fun S2 w2 => ∃ m', m' < m ∧ Iv m' S2 w2, bk := D.nx } S w1 else D.nx S w1
theorem qs_while (hp : PassesOwn (model X.prog X.w) X.A X.env X.xe) (hc : QT X W W' c tt) (hb : QSs X W W' bs t) : QS X W W' (.While c bs [] pos) (dWhile tt t) := PS.imp (ps_while hp hc hb)
  fun D σ H ⟨P, w, S, D', rh, sl, ⟨Iv, ⟨m0, h0⟩, hs⟩, hd, hx⟩ => by
    refine ⟨fun m σ2 H2 => ∃ P2 w2 S2, Go X.K H P w H2 P2 w2 ∧ Slots X.K P2 S2 σ2 ∧ Iv m S2 w2, ⟨m0, P, w, S, rh.go, sl, h0⟩, ?_⟩
    rintro m σ2 H2 ⟨P2, w2, S2, g2, sl2, h2⟩
    refine ⟨P2, w2, S2, _, g2.rh, sl2, hs m S2 w2 h2, fun b w3 h3 H3 P3 g3 => ite_imp h3 (fun z => ?_) (fun z => hd.nx S2 w3 z _ H3 P3 (g2.trans g3) (sl2.mono g3.ex)), hx.go g2⟩
    have g := g2.trans g3
    refine ⟨fun σ4 H4 => ∃ m', m' < m ∧ ∃ P4 w4 S4, Go X.K H P w H4 P4 w4 ∧ Slots X.K P4 S4 σ4 ∧ Iv m' S4 w4, fun σ4 H4 q => q, P3, w3, S2, _, g3.rh, sl2.mono g3.ex, z, ⟨?_, hd.rt.go g, hd.nx.go g, ?_⟩, hx.go g⟩
    all_goals
      rintro S4 w4 ⟨m', hm, h4⟩ σ4 H4 P4 g4 sl4
      exact ⟨m', hm, P4, w4, S4, g.trans g4, sl4, h4⟩
/-- what a loop walks -/
structure DIt where
  n : Nat
  item : Nat → D
  ok : Wd → Prop
abbrev DI := DSt → Wd → (DIt → Wd → Prop) → Prop
def ItOk (K : PySem.W.Frag) (H0 P0 : Hp) (w0 : Wd) (J : It) (j : DIt) : Prop := ∀ H P w, (∀ a u, P0 a = some u → P a = some u) → RH K H P w → j.ok w → (∀ i, i < j.n → J.go i H ∧ ∀ x H1, J.yld i H x H1 → ∃ P1, Go K H P w H1 P1 w ∧ Rep K P1 (j.item i) x) ∧ J.stop j.n H
def liftI (K : PySem.W.Frag) (W : WX) (W' : DWX) (t : DI) : TI := fun σ H R => ∃ P w S R', RH K H P w ∧ Slots K P S σ ∧ t S w R' ∧ (∀ j w1, R' j w1 → ∀ J H1 P1, Go K H P w H1 P1 w1 → ItOk K H1 P1 w1 J j → R J H1) ∧ WOk K H P w W' W
def QI (X : Cx) (W : WX) (W' : DWX) (tg iter : Expr) (t : DI) : Prop := PI X tg iter (liftI X.K W W' t)
theorem PI.imp {tg iter : Expr} {t u : TI} (p : PI X tg iter t) (k : ∀ σ H R, u σ H R → t σ H R) : PI X tg iter u := ⟨fun pins s σ H R I q => p.run pins s σ H R I (k σ H R q)⟩
def dFor (it : DI) (g : DG) (tb : DS) : DS := fun D S w => it S w fun j w1 => ∃ Iv : Nat → DSt → Wd → Prop, Iv 0 S w1 ∧
  (∀ i S2 w2, i < j.n → Iv i S2 w2 → j.ok w2 ∧ g (j.item i) S2 w2 fun S3 w3 => tb { D with nx := Iv (i + 1), ct := Iv (i + 1), bk := D.nx } S3 w3) ∧ ∀ S2 w2, Iv j.n S2 w2 → j.ok w2 ∧ D.nx S2 w2
theorem for_imp {it : DI} {g : DG} : ∀ D σ H, liftS X.K W W' (dFor it g t) D σ H → tFor (liftI X.K W W' it) (liftG X.K g) (liftS X.K W W' t) D σ H := by
  rintro D σ H ⟨P, w, S, D', rh, sl, h, hd, hx⟩
  refine ⟨P, w, S, _, rh, sl, h, fun j w1 hj J H1 P1 g1 iok => ?_, hx⟩
  obtain ⟨Iv, h0, hs, hn⟩ := hj
  refine ⟨fun i m σ2 H2 => i + m = j.n ∧ ∃ P2 w2 S2, Go X.K H1 P1 w1 H2 P2 w2 ∧ Slots X.K P2 S2 σ2 ∧ Iv i S2 w2, ⟨j.n, by omega, P1, w1, S, g1.rh.go, sl.mono g1.ex, h0⟩, ?_⟩
  rintro i m σ2 H2 ⟨him, P2, w2, S2, g2, sl2, h2⟩
  by_cases hlt : i < j.n
  · obtain ⟨ok2, q2⟩ := hs i S2 w2 hlt h2
    obtain ⟨go, yl⟩ := (iok H2 P2 w2 g2.ex g2.rh ok2).1 i hlt
    refine .inr ⟨go, fun σ4 H4 => ∃ P4 w4 S4, Go X.K H1 P1 w1 H4 P4 w4 ∧ Slots X.K P4 S4 σ4 ∧ Iv (i + 1) S4 w4, fun σ4 H4 q => ⟨m - 1, by omega, by omega, q⟩, fun x H3 y => ?_⟩
    obtain ⟨P3, g3, r3⟩ := yl x H3 y
    refine ⟨P3, w2, S2, _, _, g3.rh, sl2.mono g3.ex, r3, q2, fun S4 w4 h4 σ4 H4 P4 g4 sl4 => ?_⟩
    have gg := (g2.trans g3).trans g4
    refine ⟨P4, w4, S4, _, g4.rh, sl4, h4, ⟨?_, hd.rt.go (g1.trans gg), hd.nx.go (g1.trans gg), ?_⟩, hx.go (g1.trans gg)⟩
    all_goals
      intro S5 w5 h5 σ5 H5 P5 g5 sl5
      exact ⟨P5, w5, S5, gg.trans g5, sl5, h5⟩
  · have e : i = j.n := by omega
    subst e
    obtain ⟨ok2, q2⟩ := hn S2 w2 h2
    exact .inl ⟨(iok H2 P2 w2 g2.ex g2.rh ok2).2, hd.nx S2 w2 q2 σ2 H2 P2 (g1.trans g2) sl2⟩
theorem qs_for {tg iter : Expr} {it : DI} {g : DG} (hp : PassesOwn (model X.prog X.w) X.A X.env X.xe) (hc : X.calm = true) (hi : QI X W W' tg iter it) (hg : QG X tg g) (hb : QSs X W W' bs t) (hs : ∀ x, foldedSetIterable iter X.env x = pure x := by intro _; rfl) : QS X W W' (.For tg iter bs [] pos) (dFor it g t) := PS.imp (ps_for hp hc hi hg hb hs) for_imp
end
end TD

set_option maxHeartbeats 2000000
namespace TD
open PySem PySem.Spec PyProof.Rows L2
/-! ### comprehensions -/
def wipeD (S : DSt) : List Nat → DSt
  | [] => S
  | v :: vs => (wipeD S vs).set v none
theorem Slots.wipe {K : PySem.W.Frag} {P : Hp} {S : DSt} {σ : St} (h : Slots K P S σ) : ∀ vs : List Nat, Slots K P (wipeD S vs) (L2.wipe σ vs)
  | [] => h
  | v :: vs => (Slots.wipe h vs).del v
theorem wipe_set {σ : St} {o : Option V} {j : Nat} : ∀ {vs : List Nat}, j ∈ vs → L2.wipe (σ.set j o) vs = L2.wipe σ vs := by
  intro vs
  induction vs generalizing σ with
  | nil => intro h; cases h
  | cons v vs ih =>
    intro h
    by_cases hv : j ∈ vs
    · show (L2.wipe (σ.set j o) vs).set v none = (L2.wipe σ vs).set v none
      rw [ih hv]
    · have e : j = v := by
        rcases List.mem_cons.mp h with e | e
        · exact e
        · exact (hv e).elim
      subst e
      have com : ∀ (us : List Nat) (τ : St), j ∉ us → L2.wipe (τ.set j o) us = (L2.wipe τ us).set j o := by
        intro us
        induction us with
        | nil => intro τ _; rfl
        | cons u us ih2 =>
          intro τ hu
          show (L2.wipe (τ.set j o) us).set u none = ((L2.wipe τ us).set u none).set j o
          rw [ih2 τ (fun z => hu (List.mem_cons_of_mem _ z)), List.set_comm _ _ (fun z => hu (by rw [z]; exact List.mem_cons_self))]
      show (L2.wipe (σ.set j o) vs).set j none = (L2.wipe σ vs).set j none
      rw [com vs σ hv, List.set_set]
theorem wipe_setAll {js : List Nat} : ∀ (ks : List Nat) (vs : List V) (σ : St), (∀ k ∈ ks, k ∈ js) → L2.wipe (setAllV σ ks vs) js = L2.wipe σ js
  | [], vs, σ, _ => by cases vs <;> rfl
  | k :: ks, [], σ, _ => rfl
  | k :: ks, v :: vs, σ, h => by
    show L2.wipe (setAllV (σ.set k (some v)) ks vs) js = _
    rw [wipe_setAll ks vs _ fun x hx => h x (List.mem_cons_of_mem _ hx), wipe_set (h k List.mem_cons_self)]
theorem wipe_wipe {js : List Nat} : ∀ (ks : List Nat) (σ : St), (∀ k ∈ ks, k ∈ js) → L2.wipe (L2.wipe σ ks) js = L2.wipe σ js
  | [], σ, _ => rfl
  | k :: ks, σ, h => by
    show L2.wipe ((L2.wipe σ ks).set k none) js = _
    rw [wipe_set (h k List.mem_cons_self), wipe_wipe ks σ fun x hx => h x (List.mem_cons_of_mem _ hx)]
/-- a comprehension's target: one name, or a tuple of names -/
inductive Tgt where
  | one (j : Nat) | many (js : List Nat)
def Tgt.vs : Tgt → List Nat
  | .one j => [j]
  | .many js => js
def Tgt.tg (K : PySem.W.Frag) : Tgt → TG
  | .one j => gName j
  | .many js => gTup K js.length (gNms js)
def Tgt.dg : Tgt → D → DSt → (DSt → Prop) → Prop
  | .one j, d, S, N => N (S.set j (some d))
  | .many js, d, S, N => match d with
    | .tup ds => ds.length = js.length ∧ N (setAll S js ds)
    | _ => False
theorem Tgt.imp {K : PySem.W.Frag} {H P : Hp} {w : Wd} {S : DSt} {σ : St} {d : D} {v : V} {N' : DSt → Prop} {N : St → Hp → Prop} (T : Tgt) (rh : RH K H P w) (sl : Slots K P (wipeD S T.vs) (L2.wipe σ T.vs)) (r : Rep K P d v) (h : T.dg d (wipeD S T.vs) N')
    (k : ∀ S2 σ2, N' S2 → Slots K P S2 σ2 → L2.wipe σ2 T.vs = L2.wipe σ T.vs → N σ2 H) : T.tg K v (L2.wipe σ T.vs) H N := by
  cases T with
  | one j => exact k _ _ h (sl.set j r) (by show L2.wipe ((L2.wipe σ [j]).set j (some v)) [j] = _; rw [wipe_set (by simp), wipe_wipe [j] σ fun _ z => z] <;> rfl)
  | many js =>
    cases r with
    | tup q r =>
      refine ⟨_, _, rfl, SqT.of (rh.per _ _ q), by rw [r.length, h.1], gNms_of js _ _ _ _ (by rw [r.length, h.1]) ?_⟩
      exact k _ _ h.2 (Slots.setAll js _ _ _ _ sl r) (by show L2.wipe (setAllV (L2.wipe σ js) js _) js = _; rw [wipe_setAll js _ _ fun _ z => z, wipe_wipe js σ fun _ z => z] <;> rfl)
    | _ => exact h.elim
def LcBody (T : Tgt) (tt : DT) (te : DE) (S : DSt) (w1 : Wd) (j : DIt) (acc : Nat → List D) : Prop := acc 0 = [] ∧ j.n ≤ sizeLine ∧ j.ok w1 ∧
  ∀ i, i < j.n → T.dg (j.item i) (wipeD S T.vs) fun S2 => tt S2 w1 fun b w2 => w2 = w1 ∧ if b = true then te S2 w1 fun d w3 => w3 = w1 ∧ acc (i + 1) = acc i ++ [d] else acc (i + 1) = acc i
def dLc (it : DI) (T : Tgt) (tt : DT) (te : DE) : DE := fun S w Q => it S w fun j w1 => ∃ acc : Nat → List D, LcBody T tt te S w1 j acc ∧ Q (.lst (acc j.n)) w1
def dLcO (it : DI) (T : Tgt) (tt : DT) (te : DE) : DE := fun S w Q => it S w fun j w1 => ∃ acc : Nat → List D, LcBody T tt te S w1 j acc ∧ ∀ p, w1 p = none → Q (.ref p) (put w1 p (.lst (acc j.n)))
/-- the state within a comprehension: the new list at A stands apart -/
structure LcAt (K : PySem.W.Frag) (H1 P1 : Hp) (w1 : Wd) (A : Addr) (ds : List D) (H P : Hp) (vs : List V) : Prop where
  ex : Ex P1 P
  rh : RH K H P w1
  at_ : H A = some (.lst vs)
  pn : P A = none
  wn : w1 A = none
  rep : RepL K P ds vs
  fr : ∀ a u, a ≠ A → NT u → H1 a = some u → P1 a = none → w1 a = none → H a = some u ∧ P a = none
theorem LcAt.go {K : PySem.W.Frag} {H1 P1 H P H2 P2 : Hp} {w1 : Wd} {A : Addr} {ds : List D} {vs : List V} (h : LcAt K H1 P1 w1 A ds H P vs) (g : Go K H P w1 H2 P2 w1) : LcAt K H1 P1 w1 A ds H2 P2 vs :=
  ⟨h.ex.trans g.ex, g.rh, (g.fr A _ (fun _ z => HO.noConfusion z) h.at_ h.pn h.wn).1, (g.fr A _ (fun _ z => HO.noConfusion z) h.at_ h.pn h.wn).2.1, h.wn, h.rep.mono g.ex, fun a u ha nt h1 h2 h3 => by
    obtain ⟨q1, q2⟩ := h.fr a u ha nt h1 h2 h3
    obtain ⟨z1, z2, _⟩ := g.fr a u nt q1 q2 h3
    exact ⟨z1, z2⟩⟩
theorem LcAt.add {K : PySem.W.Frag} {H1 P1 H P : Hp} {w1 : Wd} {A : Addr} {ds : List D} {vs : List V} {d : D} {v : V} (h : LcAt K H1 P1 w1 A ds H P vs) (r : Rep K P d v) : LcAt K H1 P1 w1 A (ds ++ [d]) (upd H A (.lst (vs ++ [v]))) P (vs ++ [v]) :=
  ⟨h.ex, h.rh.setF h.pn h.wn, upd_same, h.pn, h.wn, h.rep.append (.cons r .nil), fun a u ha nt h1 h2 h3 => by rw [upd_ne ha]; exact h.fr a u ha nt h1 h2 h3⟩
theorem lc_imp {K : PySem.W.Frag} {W : WX} {W' : DWX} {it : DI} {T : Tgt} {tt : DT} {te : DE} {σ : St} {H P : Hp} {w : Wd} {S : DSt} {R' : DIt → Wd → Prop} {Q : VK} (rh : RH K H P w) (sl : Slots K P S σ) (h : it S w R') (hx : WOk K H P w W' W)
    (hR : ∀ j w1, R' j w1 → ∃ acc : Nat → List D, LcBody T tt te S w1 j acc ∧ ∀ A H1 P1 H2 P2 vs, Go K H P w H1 P1 w1 → H1 A = none → LcAt K H1 P1 w1 A (acc j.n) H2 P2 vs → Q (.ref A) H2) :
    tLc (liftI K W W' it) (T.tg K) (liftT K W0 DW0 tt) (liftE K W0 DW0 te) T.vs σ H Q := by
  refine ⟨P, w, S, R', rh, sl, h, fun j w1 hj J H1 P1 g1 iok => ?_, hx⟩
  obtain ⟨acc, ⟨a0, hn, hok, hb⟩, hQ⟩ := hR j w1 hj
  intro A hA
  obtain ⟨pA, wA⟩ := g1.rh.free hA
  refine ⟨fun i m H2 => i + m = j.n ∧ ∃ P2 vs, LcAt K H1 P1 w1 A (acc i) H2 P2 vs ∧ vs.length ≤ i, ⟨j.n, by omega, P1, [], ⟨Ex.refl _, g1.rh.setF pA wA, upd_same, pA, wA, by rw [a0]; exact .nil, fun a u ha _ h1 h2 h3 => ⟨by rw [upd_ne ha]; exact h1, h2⟩⟩, Nat.le_refl _⟩, ?_⟩
  rintro i m H2 ⟨him, P2, vs, hL, hvl⟩
  by_cases hlt : i < j.n
  · obtain ⟨go, yl⟩ := (iok H2 P2 w1 hL.ex hL.rh hok).1 i hlt
    refine .inr ⟨go, fun H4 => ∃ P4 vs4, LcAt K H1 P1 w1 A (acc (i + 1)) H4 P4 vs4 ∧ vs4.length ≤ i + 1, fun H4 q => ⟨m - 1, by omega, by omega, q⟩, fun x H3 y => ?_⟩
    obtain ⟨P3, g3, r3⟩ := yl x H3 y
    have hL3 := hL.go g3
    refine Tgt.imp T g3.rh ((sl.mono (g1.ex.trans hL3.ex)).wipe T.vs) r3 (hb i hlt) fun S4 σ4 h4 sl4 hw4 => ⟨hw4, ?_⟩
    refine ⟨P3, w1, S4, _, g3.rh, sl4, h4, fun b w5 h5 H5 P5 g5 => ?_, WOk.none⟩
    obtain ⟨e5, h5⟩ := h5
    subst e5
    have hL5 := hL3.go g5
    refine ite_imp h5 (fun z => ?_) (fun z => ?_)
    · refine ⟨P5, _, S4, _, g5.rh, sl4.mono g5.ex, z, fun d w6 h6 v6 H6 P6 g6 r6 => ?_, WOk.none⟩
      obtain ⟨e6, h6⟩ := h6
      subst e6
      have hL6 := hL5.go g6
      refine ⟨vs, hL6.at_, by omega, P6, vs ++ [v6], ?_, by rw [List.length_append]; simp; exact hvl⟩
      rw [h6]
      exact hL6.add r6
    · rw [z]
      exact ⟨P5, vs, hL5, by omega⟩
  · have e : i = j.n := by omega
    subst e
    exact .inl ⟨(iok H2 P2 w1 hL.ex hL.rh hok).2, hQ A H1 P1 H2 P2 vs g1 hA hL⟩
theorem LcAt.endP {K : PySem.W.Frag} {H1 P1 H P : Hp} {w1 : Wd} {A : Addr} {ds : List D} {vs : List V} (h : LcAt K H1 P1 w1 A ds H P vs) (hA : H1 A = none) : Go K H1 P1 w1 H (upd P A (.lst vs)) w1 ∧ Rep K (upd P A (.lst vs)) (.lst ds) (.ref A) := by
  have e : Ex P (upd P A (.lst vs)) := Ex.new h.pn
  refine ⟨⟨h.ex.trans e, ⟨fun a u q => ?_, fun a n q => ?_⟩, fun a u nt q hq hw1 => ?_⟩, .lst upd_same (h.rep.mono e)⟩
  · by_cases ha : a = A
    · subst ha; rw [upd_same] at q; rw [← q]; exact h.at_
    · rw [upd_ne ha] at q; exact h.rh.per a u q
  · obtain ⟨h1, ho, h2, h3⟩ := h.rh.own a n q
    have ha : a ≠ A := fun z => by rw [z, h.wn] at q; cases q
    rw [upd_ne ha]
    exact ⟨h1, ho, h2, h3.mono e⟩
  · have ha : a ≠ A := ne_of_none q hA
    obtain ⟨z1, z2⟩ := h.fr a u ha nt q hq hw1
    rw [upd_ne ha]
    exact ⟨z1, z2, hw1⟩
theorem LcAt.endW {K : PySem.W.Frag} {H1 P1 H P : Hp} {w1 : Wd} {A : Addr} {ds : List D} {vs : List V} (h : LcAt K H1 P1 w1 A ds H P vs) (hA : H1 A = none) : Go K H1 P1 w1 H P (put w1 A (.lst ds)) := by
  refine ⟨h.ex, ⟨h.rh.per, fun a n q => ?_⟩, fun a u nt q hq hw1 => ?_⟩
  · by_cases ha : a = A
    · subst ha; rw [put_same] at q; cases q
      exact ⟨h.pn, _, h.at_, vs, rfl, h.rep⟩
    · rw [put_ne ha] at q; exact h.rh.own a n q
  · have ha : a ≠ A := ne_of_none q hA
    obtain ⟨z1, z2⟩ := h.fr a u ha nt q hq hw1
    rw [put_ne ha]
    exact ⟨z1, z2, hw1⟩
section
variable {X : Cx} {W : WX} {W' : DWX} {it : DI} {T : Tgt} {tt : DT} {te : DE} {elt tg iter : Expr} {ifs : List Expr} {scope : Scope} {own : List (Str × Nat)} {pos pos' : Pos}
theorem lcP_imp : ∀ σ H Q, liftE X.K W W' (dLc it T tt te) σ H Q → tLc (liftI X.K W W' it) (T.tg X.K) (liftT X.K W0 DW0 tt) (liftE X.K W0 DW0 te) T.vs σ H Q :=
  fun σ H Q ⟨P, w, S, Q', rh, sl, h, hq, hx⟩ => lc_imp rh sl h hx fun j w1 ⟨acc, hb, hQ⟩ => ⟨acc, hb, fun A H1 P1 H2 P2 vs g1 hA hL => by
    obtain ⟨g2, r2⟩ := hL.endP hA
    exact hq _ w1 hQ _ H2 _ (g1.trans g2) r2⟩
theorem lcO_imp : ∀ σ H Q, liftE X.K W W' (dLcO it T tt te) σ H Q → tLc (liftI X.K W W' it) (T.tg X.K) (liftT X.K W0 DW0 tt) (liftE X.K W0 DW0 te) T.vs σ H Q :=
  fun σ H Q ⟨P, w, S, Q', rh, sl, h, hq, hx⟩ => lc_imp rh sl h hx fun j w1 ⟨acc, hb, hQ⟩ => ⟨acc, hb, fun A H1 P1 H2 P2 vs g1 hA hL =>
    hq _ _ (hQ A hL.wn) _ H2 _ (g1.trans (hL.endW hA)) (.ref A)⟩
def QTs (X : Cx) (ifs : List Expr) (t : DT) : Prop := PTs X ifs (liftT X.K W0 DW0 t)
def dYes : DT := fun _ w Q => Q true w
theorem qts_nil : QTs X [] dYes := ⟨fun pins s σ H Q I ⟨P, w, S, Q', rh, sl, h, hq, hx⟩ => pts_nil.run pins s σ H Q I (hq true w h H P rh.go)⟩
theorem qts_one {c : Expr} (h : QT X W0 DW0 c tt) : QTs X [c] tt := pts_one h
theorem qe_lc (hv : own.map (·.2) = T.vs) (hc : X.calm = true) (hN : X.N.Nodup) (hi : QI X W W' tg iter it) (ok : BlkOk X.N X.env.scope scope own)
    (hg : ∀ (s : Shared) (H : Hp) (C : Addr) (cl : List (Str × Addr)) (fp : List Addr), PG (X.blk s H scope (compEnvC scope cl C X.env) fp) tg (T.tg X.K)) (ht : ∀ (s : Shared) (H : Hp) (C : Addr) (cl : List (Str × Addr)) (fp : List Addr), QTs (X.blk s H scope (compEnvC scope cl C X.env) fp) ifs tt)
    (he : ∀ (s : Shared) (H : Hp) (C : Addr) (cl : List (Str × Addr)) (fp : List Addr), QE (X.blk s H scope (compEnvC scope cl C X.env) fp) W0 DW0 elt te) (hs : ∀ x, foldedSetIterable iter X.env x = pure x := by intro _; rfl) :
    QE X W W' (.ListComp elt [⟨tg, iter, ifs, 0⟩] scope pos) (dLc it T tt te) := by
  have q := pe_lc (pos := pos) (tt := liftT X.K W0 DW0 tt) (te := liftE X.K W0 DW0 te) hc hN hi ok hg ht he hs
  rw [hv] at q
  exact PE.imp q lcP_imp
theorem qe_lcO (hv : own.map (·.2) = T.vs) (hc : X.calm = true) (hN : X.N.Nodup) (hi : QI X W W' tg iter it) (ok : BlkOk X.N X.env.scope scope own)
    (hg : ∀ (s : Shared) (H : Hp) (C : Addr) (cl : List (Str × Addr)) (fp : List Addr), PG (X.blk s H scope (compEnvC scope cl C X.env) fp) tg (T.tg X.K)) (ht : ∀ (s : Shared) (H : Hp) (C : Addr) (cl : List (Str × Addr)) (fp : List Addr), QTs (X.blk s H scope (compEnvC scope cl C X.env) fp) ifs tt)
    (he : ∀ (s : Shared) (H : Hp) (C : Addr) (cl : List (Str × Addr)) (fp : List Addr), QE (X.blk s H scope (compEnvC scope cl C X.env) fp) W0 DW0 elt te) (hs : ∀ x, foldedSetIterable iter X.env x = pure x := by intro _; rfl) :
    QE X W W' (.ListComp elt [⟨tg, iter, ifs, 0⟩] scope pos) (dLcO it T tt te) := by
  have q := pe_lc (pos := pos) (tt := liftT X.K W0 DW0 tt) (te := liftE X.K W0 DW0 te) hc hN hi ok hg ht he hs
  rw [hv] at q
  exact PE.imp q lcO_imp
theorem qs_setLc {i : Nat} {y : Str} {py spos : Pos} (hv : own.map (·.2) = T.vs) (hc : X.calm = true) (hN : X.N.Nodup) (hy : X.N[i]? = some y) (hyl : X.env.scope.names.lookup y = some .local)
    (hsw : swapsWith (.ListComp elt [⟨tg, iter, ifs, 0⟩] scope pos) (some (.Name y py)) spos.line X.env = pure true) (hi : QI X W W' tg iter it) (ok : BlkOk X.N X.env.scope scope own)
    (hg : ∀ (s : Shared) (H : Hp) (C : Addr) (cl : List (Str × Addr)) (fp : List Addr), PG (X.blk s H scope (compEnvC scope cl C X.env) fp) tg (T.tg X.K)) (ht : ∀ (s : Shared) (H : Hp) (C : Addr) (cl : List (Str × Addr)) (fp : List Addr), QTs (X.blk s H scope (compEnvC scope cl C X.env) fp) ifs tt)
    (he : ∀ (s : Shared) (H : Hp) (C : Addr) (cl : List (Str × Addr)) (fp : List Addr), QE (X.blk s H scope (compEnvC scope cl C X.env) fp) W0 DW0 elt te) (hs : ∀ x, foldedSetIterable iter X.env x = pure x := by intro _; rfl) :
    QS X W W' (.Assign [.Name y py] (.ListComp elt [⟨tg, iter, ifs, 0⟩] scope pos) spos) (dAsg (dLc it T tt te) i) := by
  have q := ps_setLc (pos := pos) (tt := liftT X.K W0 DW0 tt) (te := liftE X.K W0 DW0 te) hc hN hy hyl hsw hi ok hg ht he hs
  rw [hv] at q
  refine PS.imp q fun D σ H ⟨P, w, S, D', rh, sl, h, hd, hx⟩ => lcP_imp σ H _ ⟨P, w, S, _, rh, sl, h, fun d w1 h1 v H1 P1 g1 r1 => hd.nx _ w1 h1 _ H1 P1 g1 ((sl.mono g1.ex).set i r1), hx⟩
theorem qs_setLcO {i : Nat} {y : Str} {py spos : Pos} (hv : own.map (·.2) = T.vs) (hc : X.calm = true) (hN : X.N.Nodup) (hy : X.N[i]? = some y) (hyl : X.env.scope.names.lookup y = some .local)
    (hsw : swapsWith (.ListComp elt [⟨tg, iter, ifs, 0⟩] scope pos) (some (.Name y py)) spos.line X.env = pure true) (hi : QI X W W' tg iter it) (ok : BlkOk X.N X.env.scope scope own)
    (hg : ∀ (s : Shared) (H : Hp) (C : Addr) (cl : List (Str × Addr)) (fp : List Addr), PG (X.blk s H scope (compEnvC scope cl C X.env) fp) tg (T.tg X.K)) (ht : ∀ (s : Shared) (H : Hp) (C : Addr) (cl : List (Str × Addr)) (fp : List Addr), QTs (X.blk s H scope (compEnvC scope cl C X.env) fp) ifs tt)
    (he : ∀ (s : Shared) (H : Hp) (C : Addr) (cl : List (Str × Addr)) (fp : List Addr), QE (X.blk s H scope (compEnvC scope cl C X.env) fp) W0 DW0 elt te) (hs : ∀ x, foldedSetIterable iter X.env x = pure x := by intro _; rfl) :
    QS X W W' (.Assign [.Name y py] (.ListComp elt [⟨tg, iter, ifs, 0⟩] scope pos) spos) (dAsg (dLcO it T tt te) i) := by
  have q := ps_setLc (pos := pos) (tt := liftT X.K W0 DW0 tt) (te := liftE X.K W0 DW0 te) hc hN hy hyl hsw hi ok hg ht he hs
  rw [hv] at q
  refine PS.imp q fun D σ H ⟨P, w, S, D', rh, sl, h, hd, hx⟩ => lcO_imp σ H _ ⟨P, w, S, _, rh, sl, h, fun d w1 h1 v H1 P1 g1 r1 => hd.nx _ w1 h1 _ H1 P1 g1 ((sl.mono g1.ex).set i r1), hx⟩
end
end TD

set_option maxHeartbeats 2000000
namespace TD
open PySem PySem.Spec PyProof.Rows L2
/-! ### reading lists -/
def getM (w : Wd) : D → Option (List D)
  | .lst xs => some xs
  | .ref a => match w a with
    | some (.lst xs) => some xs
    | _ => none
  | _ => none
def getL (w : Wd) : D → Option (List D)
  | .lst xs => some xs
  | .rol xs => some xs
  | .ref a => match w a with
    | some (.lst xs) => some xs
    | _ => none
  | _ => none
section
variable {K : PySem.W.Frag} {H P : Hp} {w : Wd} {d : D} {v : V} {ds : List D}
theorem getM_at (rh : RH K H P w) (r : Rep K P d v) (h : getM w d = some ds) : ∃ a vs, v = .ref a ∧ H a = some (.lst vs) ∧ RepL K P ds vs := by
  cases r with
  | lst q r => cases h; exact ⟨_, _, rfl, rh.per _ _ q, r⟩
  | ref a =>
    unfold getM at h
    dsimp only at h
    split at h
    · rename_i xs hw
      cases h
      obtain ⟨_, ho, h1, vs, e, r⟩ := rh.own a _ hw
      subst e
      exact ⟨a, vs, rfl, h1, r⟩
    · cases h
  | _ => cases h
theorem getL_at (rh : RH K H P w) (r : Rep K P d v) (h : getL w d = some ds) : ∃ a vs, v = .ref a ∧ SqL K H a vs ∧ RepL K P ds vs := by
  cases r with
  | rol q r => cases h; exact ⟨_, _, rfl, sqL_ex (fun u z => rh.per _ u z) q, r⟩
  | lst q r => cases h; exact ⟨_, _, rfl, SqL.of (rh.per _ _ q), r⟩
  | ref a =>
    obtain ⟨b, vs, e, q, r⟩ := getM_at (K := K) (d := .ref a) (v := .ref a) rh (.ref a) (ds := ds) h
    exact ⟨b, vs, e, SqL.of q, r⟩
  | _ => cases h
end
/-! ### arithmetic and + -/
def addD : DR2 := fun x y w Q => match x, y with
  | .int i, .int j => Q (.int (i + j)) w
  | .str a, .str b => a.length + b.length ≤ sizeLine ∧ Q (.str (a ++ b)) w
  | .tup xs, .tup ys => xs.length + ys.length ≤ sizeLine ∧ Q (.tup (xs ++ ys)) w
  | x, y => match getM w x, getM w y with
    | some xs, some ys => xs.length + ys.length ≤ sizeLine ∧ Q (.lst (xs ++ ys)) w
    | _, _ => False
def rAddA (K : PySem.W.Frag) : R2 := fun x y H Q => (∃ i j, x = .int i ∧ y = .int j ∧ Q (.int (i + j)) H) ∨ (∃ i j, x = .str i ∧ y = .str j ∧ i.length + j.length ≤ sizeLine ∧ Q (.str (i ++ j)) H) ∨ rCatA K x y H Q ∨ rCat x y H Q
theorem op_addA {X : Cx} : OpR X (binaryOp .Add) (rAddA X.K) := OpR.or op_add (OpR.or op_add_str (OpR.or op_catA op_cat))
theorem tr_lists {K : PySem.W.Frag} {H P : Hp} {w : Wd} {x y : V} {dx dy : D} {Q' : DKt} {Q : VK} (rh : RH K H P w) (rx : Rep K P dx x) (ry : Rep K P dy y) (hq : RetOk K H P w Q' Q)
    (h : match getM w dx, getM w dy with
    | some xs, some ys => xs.length + ys.length ≤ sizeLine ∧ Q' (.lst (xs ++ ys)) w
    | _, _ => False) : rCat x y H Q := by
  split at h
  · rename_i xs ys hx hy
    obtain ⟨a, vs, rfl, ha, ra⟩ := getM_at rh rx hx
    obtain ⟨b, us, rfl, hb, rb⟩ := getM_at rh ry hy
    refine ⟨a, b, vs, us, rfl, rfl, ha, hb, by rw [ra.length, rb.length]; exact h.1, fun p hp => ?_⟩
    have g := rh.newP (o := .lst (vs ++ us)) hp
    exact hq _ w h.2 _ _ _ g (.lst upd_same ((ra.append rb).mono g.ex))
  · exact h.elim
theorem tr_addA {K : PySem.W.Frag} : TrR2 K (rAddA K) addD := by
  intro H P w x y dx dy Q' Q rh rx ry h hq
  cases rx with
  | int i =>
    cases ry with
    | int j => exact .inl ⟨i, j, rfl, rfl, hq _ w h _ H P rh.go (.int _)⟩
    | _ => exact h.elim
  | str i =>
    cases ry with
    | str j => exact .inr (.inl ⟨i, j, rfl, rfl, h.1, hq _ w h.2 _ H P rh.go (.str _)⟩)
    | _ => exact h.elim
  | tup q r =>
    cases ry with
    | tup q2 r2 =>
      rename_i a vs ds b us es
      refine .inr (.inr (.inl ⟨a, b, vs, us, rfl, rfl, SqT.of (rh.per _ _ q), SqT.of (rh.per _ _ q2), by rw [r.length, r2.length]; exact h.1, fun e => ?_, fun e1 e2 => ?_, fun e1 e2 p hp => ?_⟩))
      · subst e
        cases r
        exact hq _ w h.2 _ H P rh.go (.tup q2 r2)
      · subst e2
        cases r2
        have := h.2
        rw [List.append_nil] at this
        exact hq _ w this _ H P rh.go (.tup q r)
      · have g := rh.newP (o := .tup (vs ++ us)) hp
        exact hq _ w h.2 _ _ _ g (.tup upd_same ((r.append r2).mono g.ex))
    | _ => exact h.elim
  | lst q r => exact .inr (.inr (.inr (tr_lists (dx := .lst _) rh (.lst q r) ry hq (by cases ry <;> exact h))))
  | ref a => exact .inr (.inr (.inr (tr_lists (dx := .ref a) rh (.ref a) ry hq (by cases ry <;> exact h))))
  | _ => cases ry <;> exact h.elim
def iiD (C : Int → Int → Prop) (g : Int → Int → D) : DR2 := fun x y w Q => match x, y with
  | .int i, .int j => C i j ∧ Q (g i j) w
  | _, _ => False
def iD (g : Int → Int → D) : DR2 := fun x y w Q => match x, y with
  | .int i, .int j => Q (g i j) w
  | _, _ => False
theorem tr_ii {K : PySem.W.Frag} {C : Int → Int → Prop} {g : Int → Int → Int} : TrR2 K (rI C fun i j => .int (g i j)) (iiD C fun i j => .int (g i j)) := by
  intro H P w x y dx dy Q' Q rh rx ry h hq
  cases rx with
  | int i =>
    cases ry with
    | int j => exact ⟨i, j, rfl, rfl, h.1, hq _ w h.2 _ H P rh.go (.int _)⟩
    | _ => exact h.elim
  | _ => cases ry <;> exact h.elim
theorem tr_i {K : PySem.W.Frag} {g : Int → Int → Int} : TrR2 K (rI0 fun i j => .int (g i j)) (iD fun i j => .int (g i j)) := by
  intro H P w x y dx dy Q' Q rh rx ry h hq
  cases rx with
  | int i =>
    cases ry with
    | int j => exact ⟨i, j, rfl, rfl, hq _ w h _ H P rh.go (.int _)⟩
    | _ => exact h.elim
  | _ => cases ry <;> exact h.elim
theorem tr_ib {K : PySem.W.Frag} {g : Int → Int → Bool} : TrR2 K (rI0 fun i j => .bl (g i j)) (iD fun i j => .bl (g i j)) := by
  intro H P w x y dx dy Q' Q rh rx ry h hq
  cases rx with
  | int i =>
    cases ry with
    | int j => exact ⟨i, j, rfl, rfl, hq _ w h _ H P rh.go (.bl _)⟩
    | _ => exact h.elim
  | _ => cases ry <;> exact h.elim
/-- * of ints, of a list and an int -/
def mulD : DR2 := fun x y w Q => match x, y with
  | .int i, .int j => CMul i j ∧ Q (.int (i * j)) w
  | x, .int k => match getM w x with
    | some xs => -(2 ^ 63) ≤ k ∧ k < 2 ^ 63 ∧ xs.length * k.toNat ≤ sizeLine ∧ Q (.lst (List.replicate k.toNat xs).flatten) w
    | none => False
  | _, _ => False
theorem RepL.reps {K : PySem.W.Frag} {P : Hp} {ds : List D} {vs : List V} (r : RepL K P ds vs) : ∀ n : Nat, RepL K P (List.replicate n ds).flatten (List.replicate n vs).flatten
  | 0 => .nil
  | n + 1 => by
    rw [List.replicate_succ, List.replicate_succ, List.flatten_cons, List.flatten_cons]
    exact r.append (RepL.reps r n)
theorem tr_rep {K : PySem.W.Frag} {H P : Hp} {w : Wd} {x : V} {dx : D} {k : Int} {Q' : DKt} {Q : VK} (rh : RH K H P w) (rx : Rep K P dx x) (hq : RetOk K H P w Q' Q)
    (h : match getM w dx with
    | some xs => -(2 ^ 63) ≤ k ∧ k < 2 ^ 63 ∧ xs.length * k.toNat ≤ sizeLine ∧ Q' (.lst (List.replicate k.toNat xs).flatten) w
    | none => False) : rRep x (.int k) H Q := by
  split at h
  · rename_i xs hx
    obtain ⟨a, vs, rfl, ha, ra⟩ := getM_at rh rx hx
    refine ⟨a, k, vs, rfl, rfl, ha, h.1, h.2.1, by rw [ra.length]; exact h.2.2.1, fun p hp => ?_⟩
    have g := rh.newP (o := .lst (List.replicate k.toNat vs).flatten) hp
    exact hq _ w h.2.2.2 _ _ _ g (.lst upd_same ((ra.reps _).mono g.ex))
  · exact h.elim
def rMulA : R2 := fun x y H Q => rI CMul (fun i j => .int (i * j)) x y H Q ∨ rRep x y H Q
theorem op_mulA {X : Cx} : OpR X (binaryOp .Mult) rMulA := OpR.or op_mul op_rep
theorem tr_mulA {K : PySem.W.Frag} : TrR2 K rMulA mulD := by
  intro H P w x y dx dy Q' Q rh rx ry h hq
  cases ry with
  | int j =>
    cases rx with
    | int i => exact .inl ⟨i, j, rfl, rfl, h.1, hq _ w h.2 _ H P rh.go (.int _)⟩
    | lst q r => exact .inr (tr_rep (dx := .lst _) rh (.lst q r) hq h)
    | ref a => exact .inr (tr_rep (dx := .ref a) rh (.ref a) hq h)
    | _ => exact h.elim
  | _ => cases rx <;> exact h.elim
/-! ### == and != -/
mutual
def toPy : D → Option PyData
  | .non => some .none
  | .bl b => some (.bool b)
  | .int i => some (.int i)
  | .str x => some (.str x)
  | .lst xs => (toPyL xs).map PyData.list
  | .rol xs => (toPyL xs).map PyData.list
  | .tup xs => (toPyL xs).map PyData.tuple
  | .rot xs => (toPyL xs).map PyData.tuple
  | _ => none
def toPyL : List D → Option (List PyData)
  | [] => some []
  | d :: ds => match toPy d, toPyL ds with
    | some p, some r => some (p :: r)
    | _, _ => none
end
theorem Dp.lift {K : PySem.W.Frag} {P H : Hp} (e : ∀ a u, P a = some u → H a = some u) : (∀ (d : D) (v : V) (p : PyData), Rep K P d v → toPy d = some p → Dp K H v p) := by
  intro d
  refine D.rec (motive_1 := fun d => ∀ (v : V) (p : PyData), Rep K P d v → toPy d = some p → Dp K H v p) (motive_2 := fun ds => ∀ (vs : List V) (ps : List PyData), RepL K P ds vs → toPyL ds = some ps → DpAll K H vs ps)
    ?non ?bl ?int ?str ?ty ?ref ?lst ?rol ?tup ?rot ?dct ?dtt ?obj ?exc ?nil ?cons d
  case non => intro v p r h; cases r; simp only [toPy] at h; cases h; exact .non
  case bl => intro b v p r h; cases r; simp only [toPy] at h; cases h; exact .bl b
  case int => intro b v p r h; cases r; simp only [toPy] at h; cases h; exact .int b
  case str => intro b v p r h; cases r; simp only [toPy] at h; cases h; exact .str b
  case ty => intro b v p r h; simp only [toPy] at h; cases h
  case ref => intro b v p r h; simp only [toPy] at h; cases h
  case lst =>
    intro xs ih v p r h
    cases r with
    | lst q r =>
      simp only [toPy] at h
      cases hx : toPyL xs with
      | none => rw [hx] at h; cases h
      | some ps => rw [hx] at h; cases h; exact .lst (SqL.of (e _ _ q)) (ih _ _ r hx)
  case rol =>
    intro xs ih v p r h
    cases r with
    | rol q r =>
      simp only [toPy] at h
      cases hx : toPyL xs with
      | none => rw [hx] at h; cases h
      | some ps => rw [hx] at h; cases h; exact .lst (sqL_ex (e _) q) (ih _ _ r hx)
  case tup =>
    intro xs ih v p r h
    cases r with
    | tup q r =>
      simp only [toPy] at h
      cases hx : toPyL xs with
      | none => rw [hx] at h; cases h
      | some ps => rw [hx] at h; cases h; exact .tup (SqT.of (e _ _ q)) (ih _ _ r hx)
  case rot =>
    intro xs ih v p r h
    cases r with
    | rot q r =>
      simp only [toPy] at h
      cases hx : toPyL xs with
      | none => rw [hx] at h; cases h
      | some ps => rw [hx] at h; cases h; exact .tup (sqT_ex (e _) q) (ih _ _ r hx)
  case dct => intro a b _ v p r h; simp only [toPy] at h; cases h
  case dtt => intro a b _ v p r h; simp only [toPy] at h; cases h
  case obj => intro a b c _ v p r h; simp only [toPy] at h; cases h
  case exc => intro a b c _ v p r h; simp only [toPy] at h; cases h
  case nil => intro vs ps r h; cases r; simp only [toPyL] at h; cases h; exact .nil
  case cons =>
    intro d ds ih1 ih2 vs ps r h
    cases r with
    | cons r1 r2 =>
      simp only [toPyL] at h
      split at h
      · rename_i p r' h1 h2
        cases h
        exact .cons (ih1 _ _ r1 h1) (ih2 _ _ r2 h2)
      · cases h
def pyOf (w : Wd) : D → Option PyData
  | .ref a => match w a with
    | some (.lst xs) => (toPyL xs).map PyData.list
    | _ => none
  | d => toPy d
theorem DpL.lift {K : PySem.W.Frag} {P H : Hp} (e : ∀ a u, P a = some u → H a = some u) : ∀ (ds : List D) (vs : List V) (ps : List PyData), RepL K P ds vs → toPyL ds = some ps → DpAll K H vs ps
  | [], vs, ps, r, h => by cases r; simp only [toPyL] at h; cases h; exact .nil
  | d :: ds, vs, ps, r, h => by
    cases r with
    | cons r1 r2 =>
      simp only [toPyL] at h
      split at h
      · rename_i p r' h1 h2
        cases h
        exact .cons (Dp.lift e d _ _ r1 h1) (DpL.lift e ds _ _ r2 h2)
      · cases h
theorem pyOf_dp {K : PySem.W.Frag} {P H : Hp} {w : Wd} {d : D} {v : V} {p : PyData} (rh : RH K H P w) (r : Rep K P d v) (h : pyOf w d = some p) : Dp K H v p := by
  by_cases hr : ∃ a, d = .ref a
  · obtain ⟨a, rfl⟩ := hr
    cases r
    unfold pyOf at h
    dsimp only at h
    split at h
    · rename_i xs hw
      obtain ⟨_, ho, h1, vs, e, r⟩ := rh.own a _ hw
      subst e
      cases hx : toPyL xs with
      | none => rw [hx] at h; cases h
      | some ps => rw [hx] at h; cases h; exact .lst (SqL.of h1) (DpL.lift rh.per _ _ _ r hx)
    · cases h
  · have h2 : toPy d = some p := by
      cases d with
      | ref a => exact (hr ⟨a, rfl⟩).elim
      | _ => exact h
    exact Dp.lift rh.per d v p r h2
/-- two scalars -/
def eqS : D → D → Option Bool
  | .int i, .int j => some (decide (i = j))
  | .str i, .str j => some (decide (i = j))
  | .bl i, .bl j => some (decide (i = j))
  | .non, .non => some true
  | .non, .int _ => some false
  | .int _, .non => some false
  | .non, .str _ => some false
  | .str _, .non => some false
  | _, _ => none
def eqD (neg : Bool) : DR2 := fun x y w Q => match eqS x y with
  | some b => Q (.bl (neg != b)) w
  | none => match pyOf w x, pyOf w y with
    | some d, some e => SeqAt.shaped d = true ∧ SeqAt.shaped e = true ∧ Q (.bl (neg != PyData.eqv d e)) w
    | _, _ => False
def rEqA (K : PySem.W.Frag) : R2 := fun x y H Q => rEq x y H Q ∨ rEqD K x y H Q
def rNeA (K : PySem.W.Frag) : R2 := fun x y H Q => rNe x y H Q ∨ rNeD K x y H Q
theorem op_eqA {X : Cx} (hu : X.A.units + 64 < cLine) : OpR X (compareOp .Eq) (rEqA X.K) := OpR.or op_eq (op_eqD hu)
theorem op_neA {X : Cx} (hu : X.A.units + 64 < cLine) : OpR X (compareOp .NotEq) (rNeA X.K) := OpR.or op_ne (op_neD hu)
theorem deep_of {K : PySem.W.Frag} {H P : Hp} {w : Wd} {x y : V} {dx dy : D} {Q' : DKt} {Q : VK} {neg : Bool} (rh : RH K H P w) (rx : Rep K P dx x) (ry : Rep K P dy y) (hq : RetOk K H P w Q' Q)
    (h : match pyOf w dx, pyOf w dy with
    | some d, some e => SeqAt.shaped d = true ∧ SeqAt.shaped e = true ∧ Q' (.bl (neg != PyData.eqv d e)) w
    | _, _ => False) : ∃ d e, Dp K H x d ∧ Dp K H y e ∧ SeqAt.shaped d = true ∧ SeqAt.shaped e = true ∧ Q (.bl (neg != PyData.eqv d e)) H := by
  split at h
  · rename_i d e h1 h2
    exact ⟨d, e, pyOf_dp rh rx h1, pyOf_dp rh ry h2, h.1, h.2.1, hq _ w h.2.2 _ H P rh.go (.bl _)⟩
  · exact h.elim
theorem eqS_ok {K : PySem.W.Frag} {P : Hp} {x y : V} {dx dy : D} {b : Bool} (rx : Rep K P dx x) (ry : Rep K P dy y) (h : eqS dx dy = some b) : scal x y = true ∧ decide (x = y) = b := by
  cases rx with
  | int i =>
    cases ry with
    | int j =>
      cases h
      refine ⟨rfl, ?_⟩
      by_cases q : i = j
      · subst q; simp
      · simp [q]
    | non => cases h; exact ⟨rfl, by simp⟩
    | _ => cases h
  | str i =>
    cases ry with
    | str j =>
      cases h
      refine ⟨rfl, ?_⟩
      by_cases q : i = j
      · subst q; simp
      · simp [q]
    | non => cases h; exact ⟨rfl, by simp⟩
    | _ => cases h
  | bl i =>
    cases ry with
    | bl j =>
      cases h
      refine ⟨rfl, ?_⟩
      by_cases q : i = j
      · subst q; simp
      · simp [q]
    | _ => cases h
  | non =>
    cases ry with
    | non => cases h; exact ⟨rfl, by simp⟩
    | int j => cases h; exact ⟨rfl, by simp⟩
    | str j => cases h; exact ⟨rfl, by simp⟩
    | _ => cases h
  | _ => cases ry <;> cases h
theorem tr_eqX {K : PySem.W.Frag} {neg : Bool} {H P : Hp} {w : Wd} {x y : V} {dx dy : D} {Q' : DKt} {Q : VK} (rh : RH K H P w) (rx : Rep K P dx x) (ry : Rep K P dy y) (h : eqD neg dx dy w Q') (hq : RetOk K H P w Q' Q) :
    (scal x y = true ∧ Q (.bl (neg != decide (x = y))) H) ∨ ∃ d e, Dp K H x d ∧ Dp K H y e ∧ SeqAt.shaped d = true ∧ SeqAt.shaped e = true ∧ Q (.bl (neg != PyData.eqv d e)) H := by
  unfold eqD at h
  split at h
  · rename_i b hb
    obtain ⟨h1, h2⟩ := eqS_ok rx ry hb
    exact .inl ⟨h1, by rw [h2]; exact hq _ w h _ H P rh.go (.bl _)⟩
  · exact .inr (deep_of rh rx ry hq h)
theorem tr_eq {K : PySem.W.Frag} : TrR2 K (rEqA K) (eqD false) := fun H P w x y dx dy Q' Q rh rx ry h hq => by
  rcases tr_eqX rh rx ry h hq with ⟨h1, h2⟩ | ⟨d, e, h1, h2, h3, h4, h5⟩
  · exact .inl ⟨h1, by simpa using h2⟩
  · exact .inr ⟨d, e, h1, h2, h3, h4, by simpa using h5⟩
theorem tr_ne {K : PySem.W.Frag} : TrR2 K (rNeA K) (eqD true) := fun H P w x y dx dy Q' Q rh rx ry h hq => by
  rcases tr_eqX rh rx ry h hq with ⟨h1, h2⟩ | ⟨d, e, h1, h2, h3, h4, h5⟩
  · exact .inl ⟨h1, by simpa using h2⟩
  · exact .inr ⟨d, e, h1, h2, h3, h4, by simpa using h5⟩
/-! ### is None -/
def isNon : D → Bool
  | .non => true
  | _ => false
def isN (neg : Bool) : DR2 := fun x y w Q => match y with
  | .non => Q (.bl (neg != isNon x)) w
  | _ => False
theorem isN_ok {K : PySem.W.Frag} {P : Hp} {x : V} {dx : D} (rx : Rep K P dx x) : decide (x = .non) = isNon dx := by
  cases rx <;> simp [isNon]
theorem tr_isN {K : PySem.W.Frag} : TrR2 K (fun x y H Q => y = .non ∧ Q (.bl (decide (x = .non))) H) (isN false) := fun H P w x y dx dy Q' Q rh rx ry h hq => by
  cases ry with
  | non => exact ⟨rfl, by rw [isN_ok rx]; exact hq _ w (by simpa [isN] using h) _ H P rh.go (.bl _)⟩
  | _ => exact h.elim
theorem tr_notN {K : PySem.W.Frag} : TrR2 K (fun x y H Q => y = .non ∧ Q (.bl (!decide (x = .non))) H) (isN true) := fun H P w x y dx dy Q' Q rh rx ry h hq => by
  cases ry with
  | non => exact ⟨rfl, by rw [isN_ok rx]; exact hq _ w (by simpa [isN] using h) _ H P rh.go (.bl _)⟩
  | _ => exact h.elim
/-! ### in -/
def flatD : D → Bool
  | .non => true
  | .bl _ => true
  | .int _ => true
  | .str _ => true
  | _ => false
def eqF : D → D → Bool
  | .non, .non => true
  | .bl a, .bl b => a == b
  | .bl a, .int b => (if a then 1 else 0) == b
  | .int a, .bl b => a == (if b then 1 else 0)
  | .int a, .int b => a == b
  | .str a, .str b => a == b
  | _, _ => false
def inL (x : D) (xs : List D) : Bool := xs.any fun y => eqF y x
theorem flat_ok {K : PySem.W.Frag} {P : Hp} {d : D} {v : V} (r : Rep K P d v) (h : flatD d = true) : flatV v = true := by
  cases r <;> first | rfl | cases h
theorem eqF_ok {K : PySem.W.Frag} {P : Hp} {d e : D} {v u : V} (r : Rep K P d v) (q : Rep K P e u) (h : flatD d = true) (h2 : flatD e = true) : eqV v u = eqF d e := by
  cases r <;> cases q <;> first | rfl | exact (Bool.false_ne_true h).elim | exact (Bool.false_ne_true h2).elim
theorem flats_ok {K : PySem.W.Frag} {P : Hp} {x : D} {vx : V} (rx : Rep K P x vx) (fx : flatD x = true) : ∀ {ds : List D} {vs : List V}, RepL K P ds vs → ds.all flatD = true → vs.all flatV = true ∧ inV vx vs = inL x ds
  | _, _, .nil, _ => ⟨rfl, rfl⟩
  | _, _, .cons r t, h => by
    rw [List.all_cons, Bool.and_eq_true] at h
    obtain ⟨h1, h2⟩ := flats_ok rx fx t h.2
    refine ⟨by rw [List.all_cons, h1, flat_ok r h.1] <;> rfl, ?_⟩
    unfold inV inL at *
    rw [List.any_cons, List.any_cons, eqF_ok r rx h.1 fx, h2]
def getS (w : Wd) : D → Option (List D)
  | .tup xs => some xs
  | .rot xs => some xs
  | d => getL w d
theorem getS_at {K : PySem.W.Frag} {H P : Hp} {w : Wd} {d : D} {v : V} {ds : List D} (rh : RH K H P w) (r : Rep K P d v) (h : getS w d = some ds) : ∃ a vs, v = .ref a ∧ (SqL K H a vs ∨ SqT K H a vs) ∧ RepL K P ds vs := by
  cases r with
  | tup q r => cases h; exact ⟨_, _, rfl, .inr (SqT.of (rh.per _ _ q)), r⟩
  | rot q r => cases h; exact ⟨_, _, rfl, .inr (sqT_ex (fun u z => rh.per _ u z) q), r⟩
  | lst q r => obtain ⟨a, vs, e, q, r⟩ := getL_at (d := .lst _) rh (.lst q r) h; exact ⟨a, vs, e, .inl q, r⟩
  | rol q r => obtain ⟨a, vs, e, q, r⟩ := getL_at (d := .rol _) rh (.rol q r) h; exact ⟨a, vs, e, .inl q, r⟩
  | ref a => obtain ⟨a, vs, e, q, r⟩ := getL_at (d := .ref _) rh (.ref a) h; exact ⟨a, vs, e, .inl q, r⟩
  | _ => cases h
/-- a dict's pairs -/
def getK (w : Wd) : D → Option (List (Key × D))
  | .dct ks xs => some (ks.zip xs)
  | .ref a => match w a with
    | some (.dK kvs) => some kvs
    | some (.lkK _ _ kvs) => some kvs
    | _ => none
  | _ => none
def getKT (w : Wd) : D → Option (List (List Key × D))
  | .dtt ks xs => some (ks.zip xs)
  | .ref a => match w a with
    | some (.dT kvs) => some kvs
    | some (.lkT _ _ kvs) => some kvs
    | _ => none
  | _ => none
def keyD : D → Option Key
  | .int i => some (.inl i)
  | .str x => some (.inr x)
  | _ => none
def keysD : List D → Option (List Key)
  | [] => some []
  | d :: ds => match keyD d, keysD ds with
    | some k, some r => some (k :: r)
    | _, _ => none
def keyTD : D → Option (List Key)
  | .tup xs => keysD xs
  | _ => none
def valD {κ : Type} [DecidableEq κ] (kvs : List (κ × D)) (k : κ) : Option D := (kvs.find? fun kv => decide (kv.1 = k)).map (·.2)
theorem keyD_ok {K : PySem.W.Frag} {P : Hp} {d : D} {v : V} {k : Key} (r : Rep K P d v) (h : keyD d = some k) : v = kV k := by
  cases r <;> first | cases h <;> rfl | cases h
theorem keysD_ok {K : PySem.W.Frag} {P : Hp} : ∀ {ds : List D} {vs : List V} {ks : List Key}, RepL K P ds vs → keysD ds = some ks → vs = ks.map kV
  | _, _, _, .nil, h => by cases h; rfl
  | _, _, _, .cons r t, h => by
    unfold keysD at h
    split at h
    · rename_i k r' h1 h2
      cases h
      rw [List.map_cons, keyD_ok r h1, keysD_ok t h2]
    · cases h
theorem RepL.kvr {K : PySem.W.Frag} {P : Hp} {κ : Type} : ∀ {kws : List (κ × V)} {ds : List D}, RepL K P ds (kws.map (·.2)) → KVr K P ((kws.map (·.1)).zip ds) kws
  | [], _, h => by cases h; exact .nil
  | kw :: r, _, h => by
    cases h with
    | cons h t => exact .cons ⟨rfl, h⟩ (RepL.kvr t)
theorem getK_at {K : PySem.W.Frag} {H P : Hp} {w : Wd} {d : D} {v : V} {kvs : List (Key × D)} (rh : RH K H P w) (r : Rep K P d v) (h : getK w d = some kvs) : ∃ a kws, v = .ref a ∧ Rd H a (.dK kws) ∧ KVr K P kvs kws := by
  cases r with
  | dct q r => cases h; exact ⟨_, _, rfl, .inl (rh.per _ _ q), RepL.kvr r⟩
  | ref a =>
    unfold getK at h
    dsimp only at h
    split at h
    · rename_i xs hw
      cases h
      obtain ⟨_, ho, h1, vs, e, r⟩ := rh.own a _ hw
      subst e
      exact ⟨a, vs, rfl, .inl h1, r⟩
    · rename_i o u xs hw
      cases h
      obtain ⟨_, ho, h1, e, vs, e2, r⟩ := rh.own a _ hw
      subst e e2
      exact ⟨a, vs, rfl, .inr ⟨o, h1⟩, r⟩
    · cases h
  | _ => cases h
theorem getKT_at {K : PySem.W.Frag} {H P : Hp} {w : Wd} {d : D} {v : V} {kvs : List (List Key × D)} (rh : RH K H P w) (r : Rep K P d v) (h : getKT w d = some kvs) : ∃ a kws, v = .ref a ∧ Rd H a (.dT kws) ∧ KVr K P kvs kws := by
  cases r with
  | dtt q r => cases h; exact ⟨_, _, rfl, .inl (rh.per _ _ q), RepL.kvr r⟩
  | ref a =>
    unfold getKT at h
    dsimp only at h
    split at h
    · rename_i xs hw
      cases h
      obtain ⟨_, ho, h1, vs, e, r⟩ := rh.own a _ hw
      subst e
      exact ⟨a, vs, rfl, .inl h1, r⟩
    · rename_i o u xs hw
      cases h
      obtain ⟨_, ho, h1, e, vs, e2, r⟩ := rh.own a _ hw
      subst e e2
      exact ⟨a, vs, rfl, .inr ⟨o, h1⟩, r⟩
    · cases h
  | _ => cases h
theorem KVr.val {K : PySem.W.Frag} {P : Hp} {κ : Type} [DecidableEq κ] (k : κ) : ∀ {l : List (κ × D)} {m : List (κ × V)}, KVr K P l m → (∃ d v, valD l k = some d ∧ valV m k = some v ∧ Rep K P d v) ∨ (valD l k = none ∧ valV m k = none)
  | _, _, .nil => .inr ⟨rfl, rfl⟩
  | p :: l, q :: m, .cons h r => by
    unfold valD valV
    rw [List.find?_cons, List.find?_cons]
    by_cases e : q.1 = k
    · have e2 : p.1 = k := h.1.trans e
      rw [decide_eq_true e, decide_eq_true e2]
      exact .inl ⟨p.2, q.2, rfl, rfl, h.2⟩
    · have e2 : ¬ p.1 = k := fun z => e (h.1.symm.trans z)
      rw [decide_eq_false e, decide_eq_false e2]
      exact KVr.val k r
/-- x in y -/
def inG (neg : Bool) : DR2 := fun x y w Q => match getS w y with
    | some ys => flatD x = true ∧ ys.all flatD = true ∧ Q (.bl (neg != inL x ys)) w
    | none => match keyD x, getK w y with
      | some k, some kvs => Q (.bl (neg != (valD kvs k).isSome)) w
      | _, _ => match keyTD x, getKT w y with
        | some k, some kvs => Q (.bl (neg != (valD kvs k).isSome)) w
        | _, _ => False
def inD (neg : Bool) : DR2 := fun x y w Q => match x, y with
  | .str a, .str b => match a.cps.toList with
    | [c] => Q (.bl (neg != decide (c ∈ b.cps.toList))) w
    | _ => False
  | x, y => inG neg x y w Q
end TD

set_option maxHeartbeats 2000000
namespace TD
open PySem PySem.Spec PyProof.Rows L2
/-! ### in -/
def rDIn (neg : Bool) : R2 := fun x y H Q => ∃ a o, y = .ref a ∧ DGet H a x o ∧ Q (.bl (neg != o.isSome)) H
theorem op_din {X : Cx} (hu : X.A.units + 1 < cLine) : OpR X (compareOp .In) (rDIn false) := fun pins s σ H x y v u Q I rx ry ⟨a, o, ey, g, q⟩ => by
  subst ey
  obtain rfl : u = Value.ref a := ry
  exact d_in hu I g rx fun s3 I3 => ⟨.bl o.isSome, H, I3, rfl, by simpa using q⟩
theorem op_dnin {X : Cx} (hu : X.A.units + 1 < cLine) : OpR X (compareOp .NotIn) (rDIn true) := fun pins s σ H x y v u Q I rx ry ⟨a, o, ey, g, q⟩ => by
  subst ey
  obtain rfl : u = Value.ref a := ry
  exact d_notIn hu I g rx fun s3 I3 => ⟨.bl (!o.isSome), H, I3, rfl, by simpa using q⟩
def rSgn (neg : Bool) : R2 := fun x y H Q => ∃ (c : Nat) (z : Str), x = .str ⟨#[c]⟩ ∧ y = .str z ∧ Q (.bl (neg != decide (c ∈ z.cps.toList))) H
def rInA (K : PySem.W.Frag) (neg : Bool) : R2 := fun x y H Q => rSgn neg x y H Q ∨ rIn K neg x y H Q ∨ rDIn neg x y H Q
theorem OpR.imp {X : Cx} {f : Value → Value → Sem Value} {r r' : R2} (h : OpR X f r) (k : ∀ x y H Q, r' x y H Q → r x y H Q) : OpR X f r' := fun pins s σ H x y v u Q I rx ry q => h pins s σ H x y v u Q I rx ry (k x y H Q q)
theorem op_inA {X : Cx} (hu : X.A.units + 64 < cLine) : OpR X (compareOp .In) (rInA X.K false) :=
  OpR.or (OpR.imp op_in_sign fun x y H Q ⟨c, z, e1, e2, q⟩ => ⟨c, z, e1, e2, by simpa using q⟩) (OpR.or op_in_seq (op_din (by omega)))
theorem op_ninA {X : Cx} (hu : X.A.units + 64 < cLine) : OpR X (compareOp .NotIn) (rInA X.K true) :=
  OpR.or (OpR.imp op_notIn_sign fun x y H Q ⟨c, z, e1, e2, q⟩ => ⟨c, z, e1, e2, by simpa using q⟩) (OpR.or op_notIn_seq (op_dnin (by omega)))
theorem str_one {a : Str} {c : Nat} (h : a.cps.toList = [c]) : a = ⟨#[c]⟩ := by
  obtain ⟨z⟩ := a
  have e : z = #[c] := by
    apply Array.toList_inj.mp
    simpa using h
  rw [e]
theorem tr_in {K : PySem.W.Frag} {neg : Bool} : TrR2 K (rInA K neg) (inD neg) := by
  intro H P w x y dx dy Q' Q rh rx ry h hq
  have fin : ∀ b, Q' (.bl b) w → Q (.bl b) H := fun b q => hq _ w q _ H P rh.go (.bl b)
  have gen : inG neg dx dy w Q' → rInA K neg x y H Q := by
    clear h
    unfold inG
    intro h
    split at h
    · rename_i ys hy
      obtain ⟨a, vs, rfl, sq, r⟩ := getS_at rh ry hy
      obtain ⟨f1, f2⟩ := flats_ok rx h.1 r h.2.1
      refine .inr (.inl ⟨a, vs, rfl, sq, flat_ok rx h.1, f1, ?_⟩)
      rw [f2]
      have := fin _ h.2.2
      cases neg <;> simpa using this
    · split at h
      · rename_i k kvs h1 h2
        obtain ⟨a, kws, rfl, rd, r⟩ := getK_at rh ry h2
        have e := keyD_ok rx h1
        subst e
        refine .inr (.inr ⟨a, valV kws k, rfl, .inl ⟨kws, k, rd, rfl, rfl⟩, ?_⟩)
        rcases KVr.val k r with ⟨d, v, e1, e2, _⟩ | ⟨e1, e2⟩
        · rw [e2]; rw [e1] at h; exact fin _ h
        · rw [e2]; rw [e1] at h; exact fin _ h
      · split at h
        · rename_i k kvs h1 h2
          obtain ⟨a, kws, rfl, rd, r⟩ := getKT_at rh ry h2
          cases rx with
          | tup q rt =>
            have e := keysD_ok rt h1
            refine .inr (.inr ⟨a, valV kws k, rfl, .inr ⟨kws, k, _, rd, rfl, ?_, rfl⟩, ?_⟩)
            · rw [← e]; exact rh.per _ _ q
            · rcases KVr.val k r with ⟨d, v, e1, e2, _⟩ | ⟨e1, e2⟩
              · rw [e2]; rw [e1] at h; exact fin _ h
              · rw [e2]; rw [e1] at h; exact fin _ h
          | _ => cases h1
        · exact h.elim
  cases rx with
  | str a =>
    cases ry with
    | str b =>
      unfold inD at h
      dsimp only at h
      split at h
      · rename_i c hc
        exact .inl ⟨c, b, by rw [str_one hc], rfl, fin _ h⟩
      · exact h.elim
    | _ => exact gen h
  | _ => exact gen h
/-! ### subscripts -/
def ixG : DR2 := fun x y w Q => match getS w x with
    | some xs => match y with
      | .int i => match atI xs i with
        | some d => Q d w
        | none => False
      | _ => False
    | none => match keyD y, getK w x with
      | some k, some kvs => match valD kvs k with
        | some d => Q d w
        | none => False
      | _, _ => match keyTD y, getKT w x with
        | some k, some kvs => match valD kvs k with
          | some d => Q d w
          | none => False
        | _, _ => False
def ixD : DR2 := fun x y w Q => match x, y with
  | .str z, .int i => z.length ≤ sizeLine ∧ match atI z.cps.toList i with
    | some c => Q (.str ⟨#[c]⟩) w
    | none => False
  | x, y => ixG x y w Q
def rDGet : R2 := fun x y H Q => ∃ a v, x = .ref a ∧ DGet H a y (some v) ∧ Q v H
theorem ix_dict {X : Cx} (hu : X.A.units + 1 < cLine) : IxR X rDGet := fun value slice pins s σ H x y v u Q I rx ry ⟨a, z, ex, g, q⟩ hs => by
  subst ex
  obtain rfl : v = Value.ref a := rx
  exact tail_any (dict_typeIs I g) PySem.F.slot_dict_getitem.lookup (d_getItem hu I g ry fun w' s3 I3 rw' => ⟨z, H, I3, rw', q⟩) hs
def rIxA (K : PySem.W.Frag) : R2 := fun x y H Q => rIx K x y H Q ∨ rDGet x y H Q
theorem ix_any {X : Cx} (hu : X.A.units + 64 < cLine) : IxR X (rIxA X.K) := IxR.or ix_seq (ix_dict (by omega))
theorem atI_rep {K : PySem.W.Frag} {P : Hp} {ds : List D} {vs : List V} {i : Int} {d : D} (r : RepL K P ds vs) (h : atI ds i = some d) : ∃ v, atI vs i = some v ∧ Rep K P d v := by
  unfold atI at h ⊢
  rw [r.length]
  cases e : ixN ds.length i with
  | none => rw [e] at h; cases h
  | some j => rw [e] at h; exact r.get h
theorem tr_ix {K : PySem.W.Frag} : TrR2 K (rIxA K) ixD := by
  intro H P w x y dx dy Q' Q rh rx ry h hq
  have gen : ixG dx dy w Q' → rIxA K x y H Q := by
    clear h
    unfold ixG
    intro h
    split at h
    · rename_i xs hx
      cases ry with
      | int i =>
        dsimp only at h
        split at h
        · rename_i d hd
          obtain ⟨a, vs, rfl, sq, r⟩ := getS_at rh rx hx
          obtain ⟨v, h1, h2⟩ := atI_rep r hd
          have q := hq _ w h _ H P rh.go h2
          rcases sq with sq | sq
          · exact .inl (.inl ⟨a, vs, i, v, rfl, rfl, sq, h1, q⟩)
          · exact .inl (.inr (.inl ⟨a, vs, i, v, rfl, rfl, sq, h1, q⟩))
        · exact h.elim
      | _ => exact h.elim
    · split at h
      · rename_i k kvs h1 h2
        obtain ⟨a, kws, rfl, rd, r⟩ := getK_at rh rx h2
        have e := keyD_ok ry h1
        subst e
        rcases KVr.val k r with ⟨d, v, e1, e2, e3⟩ | ⟨e1, e2⟩
        · rw [e1] at h; exact .inr ⟨a, v, rfl, .inl ⟨kws, k, rd, rfl, e2.symm⟩, hq _ w h _ H P rh.go e3⟩
        · rw [e1] at h; exact h.elim
      · split at h
        · rename_i k kvs h1 h2
          obtain ⟨a, kws, rfl, rd, r⟩ := getKT_at rh rx h2
          cases ry with
          | tup q rt =>
            have e := keysD_ok rt h1
            rcases KVr.val k r with ⟨d, v, e1, e2, e3⟩ | ⟨e1, e2⟩
            · rw [e1] at h
              exact .inr ⟨a, v, rfl, .inr ⟨kws, k, _, rd, rfl, by rw [← e]; exact rh.per _ _ q, e2.symm⟩, hq _ w h _ H P rh.go e3⟩
            · rw [e1] at h; exact h.elim
          | _ => cases h1
        · exact h.elim
  cases rx with
  | str z =>
    cases ry with
    | int i =>
      unfold ixD at h
      dsimp only at h
      obtain ⟨hz, h⟩ := h
      split at h
      · rename_i c hc
        exact .inl (.inr (.inr ⟨z, i, c, rfl, rfl, hz, hc, hq _ w h _ H P rh.go (.str _)⟩))
      · exact h.elim
    | _ => exact gen h
  | _ => exact gen h
/-! ### slices -/
abbrev DO := DSt → Wd → (Option Int → Wd → Prop) → Prop
def PartOk (K : PySem.W.Frag) (H P : Hp) (w : Wd) (Q' : Option Int → Wd → Prop) (Q : Option Int → Hp → Prop) : Prop := ∀ o w1, Q' o w1 → ∀ H1 P1, Go K H P w H1 P1 w1 → Q o H1
def liftO (K : PySem.W.Frag) (W : WX) (W' : DWX) (t : DO) : TO := fun σ H Q => ∃ P w S Q', RH K H P w ∧ Slots K P S σ ∧ t S w Q' ∧ PartOk K H P w Q' Q ∧ WOk K H P w W' W
def QO (X : Cx) (W : WX) (W' : DWX) (e : Option Expr) (t : DO) : Prop := PO X e (liftO X.K W W' t)
def dNoPart : DO := fun _ w Q => Q none w
def dPart (t : DE) : DO := fun S w Q => t S w fun x w1 => match x with
  | .int i => Q (some i) w1
  | _ => False
def cutD (xs : List D) (lo hi : Option Int) : List D := (xs.drop (HT.sIx xs.length 0 lo)).take (HT.sIx xs.length xs.length hi - HT.sIx xs.length 0 lo)
def slD : D → Option Int → Option Int → Wd → DKt → Prop := fun x lo hi w Q => match x with
  | .str z => z.length ≤ sizeLine ∧ Q (.str (cutS z lo hi)) w
  | .tup xs => Q (.tup (cutD xs lo hi)) w
  | x => match getL w x with
    | some xs => Q (.lst (cutD xs lo hi)) w
    | none => False
/-- a slice that will be changed -/
def slDO : D → Option Int → Option Int → Wd → DKt → Prop := fun x lo hi w Q => match getL w x with
    | some xs => ∀ p, w p = none → Q (.ref p) (put w p (.lst (cutD xs lo hi)))
    | none => False
def dSl (r : D → Option Int → Option Int → Wd → DKt → Prop) (te : DE) (tl th : DO) : DE := fun S w Q => te S w fun x w1 => tl S w1 fun l w2 => th S w2 fun u w3 => r x l u w3 Q
section
variable {X : Cx} {W : WX} {W' : DWX} {e : Expr} {te : DE} {lo hi : Option Expr} {tl th : DO} {pos p2 : Pos}
theorem PO.imp {o : Option Expr} {t u : TO} (h : PO X o t) (k : ∀ σ H Q, u σ H Q → t σ H Q) : PO X o u := ⟨fun pins s σ H Q I q => h.run pins s σ H Q I (k σ H Q q)⟩
theorem qo_none : QO X W W' none dNoPart := PO.imp po_none fun σ H Q ⟨P, w, S, Q', rh, sl, h, hq, hx⟩ => hq none w h H P rh.go
theorem qo_some (h : QE X W W' e te) : QO X W W' (some e) (dPart te) := PO.imp (po_some h) fun σ H Q ⟨P, w, S, Q', rh, sl, h, hq, hx⟩ => ⟨P, w, S, _, rh, sl, h, fun x w1 h1 v H1 P1 g1 r1 => by
  cases r1 with
  | int i => exact ⟨i, rfl, hq _ w1 h1 H1 P1 g1⟩
  | _ => exact h1.elim, hx⟩
def TrSl (K : PySem.W.Frag) (r : V → Option Int → Option Int → Hp → VK → Prop) (dr : D → Option Int → Option Int → Wd → DKt → Prop) : Prop := ∀ H P w x dx lo hi Q' Q, RH K H P w → Rep K P dx x → dr dx lo hi w Q' → RetOk K H P w Q' Q → r x lo hi H Q
theorem qe_slice {r : V → Option Int → Option Int → Hp → VK → Prop} {dr : D → Option Int → Option Int → Wd → DKt → Prop} (hr : SlR X r) (ht : TrSl X.K r dr) (he : QE X W W' e te) (hl : QO X W W' lo tl) (hu : QO X W W' hi th) : QE X W W' (.Subscript e (.Slice lo hi none p2) pos) (dSl dr te tl th) := PE.imp (pe_slice hr he hl hu)
  fun σ H Q ⟨P, w, S, Q', rh, sl, h, hq, hx⟩ => ⟨P, w, S, _, rh, sl, h, fun x w1 h1 v H1 P1 g1 r1 => ⟨P1, w1, S, _, g1.rh, sl.mono g1.ex, h1, fun l w2 h2 H2 P2 g2 => ⟨P2, w2, S, _, g2.rh, sl.mono (g1.trans g2).ex, h2, fun u w3 h3 H3 P3 g3 =>
    ht H3 P3 w3 v x l u Q' Q g3.rh (r1.mono (g2.trans g3).ex) h3 (hq.go ((g1.trans g2).trans g3)), hx.go (g1.trans g2)⟩, hx.go g1⟩, hx⟩
end
def rSlAll (K : PySem.W.Frag) : V → Option Int → Option Int → Hp → VK → Prop := fun x lo hi H Q => rSlS x lo hi H Q ∨ rSlA K x lo hi H Q ∨ rSlL K x lo hi H Q
theorem sl_all {X : Cx} : SlR X (rSlAll X.K) := SlR.or sl_str (SlR.or sl_tupA sl_list)
theorem RepL.cut {K : PySem.W.Frag} {P : Hp} {ds : List D} {vs : List V} (r : RepL K P ds vs) (lo hi : Option Int) : RepL K P (cutD ds lo hi) (cutV vs lo hi) := by
  unfold cutD cutV
  rw [r.length]
  exact (r.drop _).take _
theorem tr_slL {K : PySem.W.Frag} {H P : Hp} {w : Wd} {x : V} {dx : D} {lo hi : Option Int} {xs : List D} {Q' : DKt} {Q : VK} (rh : RH K H P w) (rx : Rep K P dx x) (hx : getL w dx = some xs) (h : Q' (.lst (cutD xs lo hi)) w) (hq : RetOk K H P w Q' Q) : rSlL K x lo hi H Q := by
  obtain ⟨a, vs, rfl, sq, r⟩ := getL_at rh rx hx
  refine ⟨a, vs, rfl, sq, fun p hp => ?_⟩
  have g := rh.newP (o := .lst (cutV vs lo hi)) hp
  exact hq _ w h _ _ _ g (.lst upd_same ((r.cut lo hi).mono g.ex))
theorem tr_sl {K : PySem.W.Frag} : TrSl K (rSlAll K) slD := by
  intro H P w x dx lo hi Q' Q rh rx h hq
  have gen : (match getL w dx with
    | some xs => Q' (.lst (cutD xs lo hi)) w
    | none => False) → rSlAll K x lo hi H Q := fun h => by
    split at h
    · rename_i xs hx; exact .inr (.inr (tr_slL rh rx hx h hq))
    · exact h.elim
  cases rx with
  | str z => exact .inl ⟨z, rfl, h.1, hq _ w h.2 _ H P rh.go (.str _)⟩
  | tup q r =>
    rename_i a vs ds
    refine .inr (.inl ⟨_, _, rfl, SqT.of (rh.per _ _ q), fun e => ?_, fun _ p hp => ?_⟩)
    · have e1 : cutD ds lo hi = ds := by
        unfold cutD
        rw [r.length] at e
        rw [e.1, e.2]
        simp
      have h' : Q' (.tup (cutD ds lo hi)) w := h
      rw [e1] at h'
      exact hq _ w h' _ H P rh.go (.tup q r)
    · have g := rh.newP (o := .tup (cutV vs lo hi)) hp
      exact hq _ w h _ _ _ g (.tup upd_same ((r.cut lo hi).mono g.ex))
  | _ => exact gen h
theorem tr_slO {K : PySem.W.Frag} : TrSl K (rSlAll K) slDO := by
  intro H P w x dx lo hi Q' Q rh rx h hq
  unfold slDO at h
  split at h
  · rename_i xs hx
    obtain ⟨a, vs, rfl, sq, r⟩ := getL_at rh rx hx
    refine .inr (.inr ⟨a, vs, rfl, sq, fun p hp => ?_⟩)
    have g := rh.newW (o := .lst (cutV vs lo hi)) (n := .lst (cutD xs lo hi)) hp ⟨_, rfl, r.cut lo hi⟩
    exact hq _ _ (h p (rh.free hp).2) _ _ _ g (.ref p)
  · exact h.elim
/-! ### built-in functions -/
def lenD : DRl := fun ds w Q => match ds with
  | [.str z] => z.length ≤ sizeLine ∧ Q (.int z.length) w
  | [x] => match getS w x with
    | some xs => Q (.int xs.length) w
    | none => match getK w x with
      | some kvs => Q (.int kvs.length) w
      | none => False
  | _ => False
def rLenA (K : PySem.W.Frag) : List V → Hp → VK → Prop := fun xs H Q => (∃ x n, xs = [x] ∧ LenV K x H n ∧ Q (.int n) H) ∨ ∃ a kvs, xs = [.ref a] ∧ Rd H a (.dK kvs) ∧ Q (.int kvs.length) H
theorem call_lenA {X : Cx} : CallR X (.builtin "len") (rLenA X.K) := fun pins s σ H xs us Q I r h => by
  rcases h with h | ⟨a, kvs, e, rd, q⟩
  · exact call_len pins s σ H xs us Q I r h
  · subst e
    obtain ⟨u, rfl, ru⟩ := vals1 r
    obtain rfl : u = Value.ref a := ru
    exact d_len I rd fun t s' I' => ⟨.int kvs.length, H, I', ⟨t, rfl⟩, q⟩
theorem KVr.len {K : PySem.W.Frag} {P : Hp} {κ : Type} {l : List (κ × D)} {m : List (κ × V)} (h : KVr K P l m) : m.length = l.length := (Paired.length h).symm
theorem tr_len {K : PySem.W.Frag} : TrRl K (rLenA K) lenD := by
  intro H P w xs ds Q' Q rh r h hq
  cases r with
  | nil => exact h.elim
  | cons r1 r2 =>
    cases r2 with
    | cons _ _ => cases r1 <;> exact h.elim
    | nil =>
      rename_i d v
      have gen : (match getS w d with
        | some xs => Q' (.int xs.length) w
        | none => match getK w d with
          | some kvs => Q' (.int kvs.length) w
          | none => False) → rLenA K [v] H Q := fun h => by
        split at h
        · rename_i xs hx
          obtain ⟨a, vs, rfl, sq, r⟩ := getS_at rh r1 hx
          refine .inl ⟨.ref a, vs.length, rfl, ?_, by rw [r.length]; exact hq _ w h _ H P rh.go (.int _)⟩
          rcases sq with sq | sq
          · exact .inl ⟨vs, sq, rfl⟩
          · exact .inr ⟨vs, sq, rfl⟩
        · split at h
          · rename_i kvs hk
            obtain ⟨a, kws, rfl, rd, r⟩ := getK_at rh r1 hk
            exact .inr ⟨a, kws, rfl, rd, by rw [r.len]; exact hq _ w h _ H P rh.go (.int _)⟩
          · exact h.elim
      cases r1 with
      | str z => exact .inl ⟨.str z, z.length, rfl, ⟨h.1, rfl⟩, hq _ w h.2 _ H P rh.go (.int _)⟩
      | _ => exact gen h
def listD (own : Bool) : DRl := fun ds w Q => match ds with
  | [x] => match getS w x with
    | some xs => if own = true then ∀ p, w p = none → Q (.ref p) (put w p (.lst xs)) else Q (.lst xs) w
    | none => False
  | _ => False
theorem tr_list {K : PySem.W.Frag} {own : Bool} : TrRl K (fun xs H Q => ∃ p ys, xs = [.ref p] ∧ (SqL K H p ys ∨ SqT K H p ys) ∧ ∀ l, H l = none → Q (.ref l) (upd H l (.lst ys))) (listD own) := by
  intro H P w xs ds Q' Q rh r h hq
  unfold listD at h
  split at h
  · rename_i x
    cases r with
    | cons r1 r2 =>
      cases r2
      split at h
      · rename_i xs hx
        obtain ⟨a, vs, rfl, sq, r⟩ := getS_at rh r1 hx
        refine ⟨a, vs, rfl, sq, fun l hl => ?_⟩
        cases own with
        | true =>
          have g := rh.newW (o := .lst vs) (n := .lst xs) hl ⟨vs, rfl, r⟩
          exact hq _ _ (h l (rh.free hl).2) _ _ _ g (.ref l)
        | false =>
          have g := rh.newP (o := .lst vs) hl
          exact hq _ w h _ _ _ g (.lst upd_same (r.mono g.ex))
      · exact h.elim
  · exact h.elim
def tupleD : DRl := fun ds w Q => match ds with
  | [.tup xs] => Q (.tup xs) w
  | [x] => match getL w x with
    | some xs => Q (.tup xs) w
    | none => False
  | _ => False
theorem tr_tuple {K : PySem.W.Frag} : TrRl K (fun xs H Q => ∃ p ys, xs = [.ref p] ∧ ((SqL K H p ys ∧ ∀ l, H l = none → Q (.ref l) (upd H l (.tup ys))) ∨ (SqT K H p ys ∧ Q (.ref p) H))) tupleD := by
  intro H P w xs ds Q' Q rh r h hq
  cases r with
  | nil => exact h.elim
  | cons r1 r2 =>
    cases r2 with
    | cons _ _ => cases r1 <;> exact h.elim
    | nil =>
      rename_i d v
      have gen : (match getL w d with
        | some xs => Q' (.tup xs) w
        | none => False) → ∃ p ys, [v] = [.ref p] ∧ ((SqL K H p ys ∧ ∀ l, H l = none → Q (.ref l) (upd H l (.tup ys))) ∨ (SqT K H p ys ∧ Q (.ref p) H)) := fun h => by
        split at h
        · rename_i xs hx
          obtain ⟨a, vs, rfl, sq, r⟩ := getL_at rh r1 hx
          refine ⟨a, vs, rfl, .inl ⟨sq, fun l hl => ?_⟩⟩
          have g := rh.newP (o := .tup vs) hl
          exact hq _ w h _ _ _ g (.tup upd_same (r.mono g.ex))
        · exact h.elim
      cases r1 with
      | tup q r => exact ⟨_, _, rfl, .inr ⟨SqT.of (rh.per _ _ q), hq _ w h _ H P rh.go (.tup q r)⟩⟩
      | _ => exact gen h
def intsD : List D → Option (List Int)
  | [] => some []
  | .int i :: r => (intsD r).map (i :: ·)
  | _ => none
def blsD : List D → Option (List Bool)
  | [] => some []
  | .bl i :: r => (blsD r).map (i :: ·)
  | _ => none
theorem intsD_ok {K : PySem.W.Frag} {P : Hp} : ∀ {ds : List D} {vs : List V} {ns : List Int}, RepL K P ds vs → intsD ds = some ns → vs = ns.map V.int
  | _, _, _, .nil, h => by cases h; rfl
  | _, _, _, .cons r t, h => by
    cases r with
    | int i =>
      unfold intsD at h
      cases e : intsD _ with
      | none => rw [e] at h; cases h
      | some ms => rw [e] at h; cases h; rw [intsD_ok t e]; rfl
    | _ => cases h
theorem blsD_ok {K : PySem.W.Frag} {P : Hp} : ∀ {ds : List D} {vs : List V} {ns : List Bool}, RepL K P ds vs → blsD ds = some ns → vs = ns.map V.bl
  | _, _, _, .nil, h => by cases h; rfl
  | _, _, _, .cons r t, h => by
    cases r with
    | bl i =>
      unfold blsD at h
      cases e : blsD _ with
      | none => rw [e] at h; cases h
      | some ms => rw [e] at h; cases h; rw [blsD_ok t e]; rfl
    | _ => cases h
theorem intsD_map : ∀ ns : List Int, intsD (ns.map D.int) = some ns
  | [] => rfl
  | n :: r => by show (intsD (r.map D.int)).map (n :: ·) = _; rw [intsD_map r]; rfl
theorem blsD_map : ∀ ns : List Bool, blsD (ns.map D.bl) = some ns
  | [] => rfl
  | n :: r => by show (blsD (r.map D.bl)).map (n :: ·) = _; rw [blsD_map r]; rfl
def nsD (w : Wd) (d : D) : Option (List Int) := (getL w d).bind intsD
def bsD (w : Wd) (d : D) : Option (List Bool) := (getL w d).bind blsD
theorem nsD_at {K : PySem.W.Frag} {H P : Hp} {w : Wd} {d : D} {v : V} {ns : List Int} (rh : RH K H P w) (r : Rep K P d v) (h : nsD w d = some ns) : ∃ a, v = .ref a ∧ SqL K H a (ns.map V.int) := by
  unfold nsD at h
  cases e : getL w d with
  | none => rw [e] at h; cases h
  | some ds =>
    rw [e] at h
    obtain ⟨a, vs, rfl, sq, r⟩ := getL_at rh r e
    exact ⟨a, rfl, by rw [← intsD_ok r h]; exact sq⟩
theorem bsD_at {K : PySem.W.Frag} {H P : Hp} {w : Wd} {d : D} {v : V} {ns : List Bool} (rh : RH K H P w) (r : Rep K P d v) (h : bsD w d = some ns) : ∃ a, v = .ref a ∧ SqL K H a (ns.map V.bl) := by
  unfold bsD at h
  cases e : getL w d with
  | none => rw [e] at h; cases h
  | some ds =>
    rw [e] at h
    obtain ⟨a, vs, rfl, sq, r⟩ := getL_at rh r e
    exact ⟨a, rfl, by rw [← blsD_ok r h]; exact sq⟩
def sumD : DRl := fun ds w Q => match ds with
  | [x] => match nsD w x with
    | some ns => Q (.int ns.sum) w
    | none => False
  | _ => False
def allD : DRl := fun ds w Q => match ds with
  | [x] => match bsD w x with
    | some bs => Q (.bl (bs.all id)) w
    | none => False
  | _ => False
theorem tr_sum {K : PySem.W.Frag} : TrRl K (rSum K) sumD := by
  intro H P w xs ds Q' Q rh r h hq
  unfold sumD at h
  split at h
  · cases r with
    | cons r1 r2 =>
      cases r2
      split at h
      · rename_i ns hn
        obtain ⟨a, rfl, sq⟩ := nsD_at rh r1 hn
        exact ⟨a, ns, rfl, sq, hq _ w h _ H P rh.go (.int _)⟩
      · exact h.elim
  · exact h.elim
theorem tr_all {K : PySem.W.Frag} : TrRl K (rAll K) allD := by
  intro H P w xs ds Q' Q rh r h hq
  unfold allD at h
  split at h
  · cases r with
    | cons r1 r2 =>
      cases r2
      split at h
      · rename_i ns hn
        obtain ⟨a, rfl, sq⟩ := bsD_at rh r1 hn
        exact ⟨a, ns, rfl, sq, hq _ w h _ H P rh.go (.bl _)⟩
      · exact h.elim
  · exact h.elim
/-- max, min: of two ints, of a list of ints -/
def maxD : DRl := fun ds w Q => match ds with
  | [.int i, .int j] => Q (.int (if j > i then j else i)) w
  | [x] => match nsD w x with
    | some ns => 0 < ns.length ∧ ∀ m, m ∈ ns → (∀ y, y ∈ ns → y ≤ m) → Q (.int m) w
    | none => False
  | _ => False
def minD : DRl := fun ds w Q => match ds with
  | [.int i, .int j] => Q (.int (if j < i then j else i)) w
  | [x] => match nsD w x with
    | some ns => 0 < ns.length ∧ ∀ m, m ∈ ns → (∀ y, y ∈ ns → m ≤ y) → Q (.int m) w
    | none => False
  | _ => False
theorem CallR.or {X : Cx} {f : Value} {r r' : List V → Hp → VK → Prop} (h : CallR X f r) (h' : CallR X f r') : CallR X f (fun xs H Q => r xs H Q ∨ r' xs H Q) := fun pins s σ H xs us Q I rs q => by
  rcases q with q | q
  · exact h pins s σ H xs us Q I rs q
  · exact h' pins s σ H xs us Q I rs q
theorem tr_max {K : PySem.W.Frag} : TrRl K (fun xs H Q => (∃ i j, xs = [.int i, .int j] ∧ Q (.int (if j > i then j else i)) H) ∨ rMax K xs H Q) maxD := by
  intro H P w xs ds Q' Q rh r h hq
  unfold maxD at h
  split at h
  · rename_i i j
    cases r with
    | cons r1 r2 => cases r2 with
      | cons r3 r4 => cases r4; cases r1; cases r3; exact .inl ⟨i, j, rfl, hq _ w h _ H P rh.go (.int _)⟩
  · cases r with
    | cons r1 r2 =>
      cases r2
      split at h
      · rename_i ns hn
        obtain ⟨a, rfl, sq⟩ := nsD_at rh r1 hn
        exact .inr ⟨a, ns, rfl, sq, h.1, fun m h1 h2 => hq _ w (h.2 m h1 h2) _ H P rh.go (.int _)⟩
      · exact h.elim
  · exact h.elim
theorem tr_min {K : PySem.W.Frag} : TrRl K (fun xs H Q => (∃ i j, xs = [.int i, .int j] ∧ Q (.int (if j < i then j else i)) H) ∨ rMin K xs H Q) minD := by
  intro H P w xs ds Q' Q rh r h hq
  unfold minD at h
  split at h
  · rename_i i j
    cases r with
    | cons r1 r2 => cases r2 with
      | cons r3 r4 => cases r4; cases r1; cases r3; exact .inl ⟨i, j, rfl, hq _ w h _ H P rh.go (.int _)⟩
  · cases r with
    | cons r1 r2 =>
      cases r2
      split at h
      · rename_i ns hn
        obtain ⟨a, rfl, sq⟩ := nsD_at rh r1 hn
        exact .inr ⟨a, ns, rfl, sq, h.1, fun m h1 h2 => hq _ w (h.2 m h1 h2) _ H P rh.go (.int _)⟩
      · exact h.elim
  · exact h.elim
def absD : DRl := fun ds w Q => match ds with
  | [.int i] => Q (.int (if i < 0 then -i else i)) w
  | _ => False
theorem tr_abs {K : PySem.W.Frag} : TrRl K (fun xs H Q => ∃ i, xs = [.int i] ∧ Q (.int (if i < 0 then -i else i)) H) absD := by
  intro H P w xs ds Q' Q rh r h hq
  unfold absD at h
  split at h
  · cases r with
    | cons r1 r2 => cases r2; cases r1; exact ⟨_, rfl, hq _ w h _ H P rh.go (.int _)⟩
  · exact h.elim
/-- isinstance(x, a built-in class) -/
def tyN (w : Wd) : D → Option String
  | .non => some "NoneType"
  | .bl _ => some "bool"
  | .int _ => some "int"
  | .str _ => some "str"
  | .lst _ => some "list"
  | .tup _ => some "tuple"
  | .ref a => match w a with
    | some (.lst _) => some "list"
    | some (.dK _) => some "dict"
    | _ => none
  | _ => none
def subTy (a n : String) : Bool := a == n || (a == "bool" && n == "int")
def tys : List String := ["NoneType", "bool", "int", "str", "list", "tuple", "dict"]
def tys2 : List String := ["bool", "int", "str", "list", "tuple"]
theorem kit_tys : (tys.all fun a => tys2.all fun n => decide (kitB a n = some (subTy a n))) = true := by decide +kernel
theorem kit_of_tys {a n : String} (h : a ∈ tys) (h2 : n ∈ tys2) : kitB a n = some (subTy a n) := of_decide_eq_true (List.all_eq_true.mp (List.all_eq_true.mp kit_tys a h) n h2)
def isiD : DRl := fun ds w Q => match ds with
  | [x, .ty n] => match tyN w x with
    | some a => n ∈ tys2 ∧ Q (.bl (subTy a n)) w
    | none => False
  | _ => False
theorem tyN_ok {K : PySem.W.Frag} {H P : Hp} {w : Wd} {d : D} {v : V} {a : String} (rh : RH K H P w) (r : Rep K P d v) (h : tyN w d = some a) : a ∈ tys ∧ TyX K H v (.type a) := by
  cases r with
  | non => cases h; exact ⟨by decide, .base .non⟩
  | bl b => cases h; exact ⟨by decide, .base (.bl b)⟩
  | int b => cases h; exact ⟨by decide, .base (.int b)⟩
  | str b => cases h; exact ⟨by decide, .base (.str b)⟩
  | lst q _ => cases h; exact ⟨by decide, .base (.lst (rh.per _ _ q))⟩
  | tup q _ => cases h; exact ⟨by decide, .base (.tup (rh.per _ _ q))⟩
  | ref b =>
    unfold tyN at h
    dsimp only at h
    split at h
    · rename_i xs hw
      cases h
      obtain ⟨_, ho, h1, vs, e, r⟩ := rh.own b _ hw
      subst e
      exact ⟨by decide, .base (.lst h1)⟩
    · rename_i xs hw
      cases h
      obtain ⟨_, ho, h1, vs, e, r⟩ := rh.own b _ hw
      subst e
      exact ⟨by decide, .base (.dK h1)⟩
    · cases h
  | _ => cases h
theorem tr_isi {K : PySem.W.Frag} : TrRl K (rIsi K) isiD := by
  intro H P w xs ds Q' Q rh r h hq
  unfold isiD at h
  split at h
  · cases r with
    | cons r1 r2 => cases r2 with
      | cons r3 r4 =>
        cases r4; cases r3
        split at h
        · rename_i a ha
          obtain ⟨h1, h2⟩ := tyN_ok rh r1 ha
          exact ⟨_, _, _, _, _, rfl, .ty _, h2, kit_ty (kit_of_tys h1 h.1), hq _ w h.2 _ H P rh.go (.bl _)⟩
        · exact h.elim
  · exact h.elim
end TD

set_option maxHeartbeats 2000000
namespace TD
open PySem PySem.Spec PyProof.Rows L2
/-! ### methods of built-in types -/
theorem tyV_of {K : PySem.W.Frag} {H P : Hp} {w : Wd} {T : String} {d : D} {v : V} (rh : RH K H P w) (r : Rep K P d v) (h : dTyOk T w d) (hT : T ≠ "tuple") : tyV K T v H := by
  cases r with
  | str z => exact h
  | lst q _ => exact .inl ⟨h, _, SqL.of (rh.per _ _ q)⟩
  | rol q _ => exact .inl ⟨h, _, sqL_ex (fun u z => rh.per _ u z) q⟩
  | tup q _ => exact (hT h).elim
  | rot q _ => exact (hT h).elim
  | ref a =>
    unfold dTyOk at h
    dsimp only at h
    split at h
    · rename_i xs hw
      obtain ⟨_, ho, h1, vs, e, r⟩ := rh.own a _ hw
      subst e
      exact .inl ⟨h, _, SqL.of h1⟩
    · exact h.elim
  | _ => exact h.elim
section
variable {X : Cx} {W : WX} {W' : DWX} {o e : Expr} {es : List Expr} {to te : DE} {t : DA} {name : Str} {apos cpos : Pos} {T id : String} {r : V → List V → Hp → VK → Prop} {dr : DRm}
theorem qe_bm0 (pa : PlainAttrs T) (slot : Slot T name id) (hty : typeOf (.builtin id) = pure (.type "method_descriptor")) (hm : MtR X id r) (hr : TrRm X.K T r dr) (ho : QE X W W' o to) (hT : T ≠ "tuple" := by decide)
    (hbase : attributeBase o name X.env (eval o X.env) = eval o X.env := by rfl) (hline : (apos.endLine == cpos.line) = true := by rfl) : QE X W W' (.Call (.Attribute o name apos) [] [] cpos) (dBM0 T dr to) := PE.imp (pe_bm0 pa slot hty hm ho hbase hline)
  fun σ H Q ⟨P, w, S, Q', rh, sl, h, hq, hx⟩ => ⟨P, w, S, _, rh, sl, h, fun x w1 h1 v H1 P1 g1 r1 => ⟨tyV_of g1.rh r1 h1.1 hT, hr H1 P1 w1 v [] x [] Q' Q g1.rh r1 .nil h1.2 (hq.go g1)⟩, hx⟩
theorem qe_bm (pa : PlainAttrs T) (slot : Slot T name id) (hty : typeOf (.builtin id) = pure (.type "method_descriptor")) (hm : MtR X id r) (hr : TrRm X.K T r dr) (ho : QE X W W' o to) (ha : QA X W W' (e :: es) t) (hT : T ≠ "tuple" := by decide)
    (hbase : attributeBase o name X.env (eval o X.env) = eval o X.env := by rfl)
    (hfew : ((backTo cpos (starEach (e :: es) X.env)).all (fun x => !x.1) && (backToKw cpos (keywordEach [] X.env)).all (fun x => x.1.isSome)
      && decide ((e :: es).length + ([] : List Keyword).length + (if ([] : List Keyword).isEmpty then 0 else 1) < 30)) = true := by rfl)
    (hline : (apos.endLine == cpos.line) = true := by rfl) (hs : starEach (e :: es) X.env = (false, eval e X.env) :: starEach es X.env := by rfl) (hplain : (backTo cpos (starEach es X.env)).any (·.1) = false := by rfl) :
    QE X W W' (.Call (.Attribute o name apos) (e :: es) [] cpos) (dBM T dr to t) := PE.imp (pe_bm pa slot hty hm ho ha hbase hfew hline hs hplain)
  fun σ H Q ⟨P, w, S, Q', rh, sl, h, hq, hx⟩ => ⟨P, w, S, _, rh, sl, h, fun x w1 h1 v H1 P1 g1 r1 => ⟨tyV_of g1.rh r1 h1.1 hT, P1, w1, S, _, g1.rh, sl.mono g1.ex, h1.2, fun ds w2 h2 us H2 P2 g2 r2 =>
    hr H2 P2 w2 v us x ds Q' Q g2.rh (r1.mono g2.ex) r2 h2 (hq.go (g1.trans g2)), hx.go g1⟩, hx⟩
end
/-- the node of a list -/
def atL (w : Wd) (d : D) (k : Addr → List D → Prop) : Prop := match d with
  | .ref a => match w a with
    | some (.lst xs) => k a xs
    | _ => False
  | _ => False
theorem atL_ok {K : PySem.W.Frag} {H P : Hp} {w : Wd} {d : D} {v : V} {k : Addr → List D → Prop} (rh : RH K H P w) (r : Rep K P d v) (h : atL w d k) : ∃ a xs vs, v = .ref a ∧ w a = some (.lst xs) ∧ H a = some (.lst vs) ∧ RepL K P xs vs ∧ k a xs := by
  cases r with
  | ref a =>
    unfold atL at h
    dsimp only at h
    split at h
    · rename_i xs hw
      obtain ⟨_, ho, h1, vs, e, r⟩ := rh.own a _ hw
      subst e
      exact ⟨a, xs, vs, rfl, hw, h1, r, h⟩
    · exact h.elim
  | _ => exact h.elim
def appD : DRm := fun x ds w Q => match ds with
  | [d] => atL w x fun a xs => xs.length < sizeLine ∧ Q .non (put w a (.lst (xs ++ [d])))
  | _ => False
theorem tr_app {K : PySem.W.Frag} : TrRm K "list" rAppend appD := by
  intro H P w x xs dx ds Q' Q rh rx rs h hq
  unfold appD at h
  split at h
  · cases rs with
    | cons r1 r2 =>
      cases r2
      obtain ⟨a, ys, vs, rfl, hw, hh, r, h1, h2⟩ := atL_ok rh rx h
      refine ⟨a, vs, _, rfl, rfl, hh, by rw [r.length]; exact h1, ?_⟩
      exact hq _ _ h2 _ _ _ (rh.setW hw ⟨_, rfl, r.append (.cons r1 .nil)⟩) .non
  · exact h.elim
def popD : DRm := fun x ds w Q => match ds with
  | [] => atL w x fun a xs => match xs[xs.length - 1]? with
    | some d => Q d (put w a (.lst xs.dropLast))
    | none => False
  | _ => False
theorem tr_pop {K : PySem.W.Frag} : TrRm K "list" rPop popD := by
  intro H P w x xs dx ds Q' Q rh rx rs h hq
  unfold popD at h
  split at h
  · cases rs
    obtain ⟨a, ys, vs, rfl, hw, hh, r, h2⟩ := atL_ok rh rx h
    split at h2
    · rename_i d hd
      obtain ⟨v, hv, rv⟩ := r.get hd
      refine ⟨a, vs, v, rfl, rfl, hh, by rw [r.length]; exact hv, ?_⟩
      exact hq _ _ h2 _ _ _ (rh.setW hw ⟨_, rfl, r.dropLast⟩) rv
    · exact h2.elim
  · exact h.elim
def extD : DRm := fun x ds w Q => match ds with
  | [d] => atL w x fun a xs => match getM w d with
    | some ys => xs.length + ys.length ≤ sizeLine ∧ Q .non (put w a (.lst (xs ++ ys)))
    | none => False
  | _ => False
theorem tr_ext {K : PySem.W.Frag} : TrRm K "list" rExtend extD := by
  intro H P w x xs dx ds Q' Q rh rx rs h hq
  unfold extD at h
  split at h
  · cases rs with
    | cons r1 r2 =>
      cases r2
      obtain ⟨a, ys, vs, rfl, hw, hh, r, h2⟩ := atL_ok rh rx h
      split at h2
      · rename_i zs hz
        obtain ⟨b, us, rfl, hb, rb⟩ := getM_at rh r1 hz
        refine ⟨a, b, vs, us, rfl, rfl, hh, hb, by rw [r.length, rb.length]; exact h2.1, ?_⟩
        exact hq _ _ h2.2 _ _ _ (rh.setW hw ⟨_, rfl, r.append rb⟩) .non
      · exact h2.elim
  · exact h.elim
def clrD : DRm := fun x ds w Q => match ds with
  | [] => atL w x fun a xs => Q .non (put w a (.lst []))
  | _ => False
theorem tr_clr {K : PySem.W.Frag} : TrRm K "list" rClear clrD := by
  intro H P w x xs dx ds Q' Q rh rx rs h hq
  unfold clrD at h
  split at h
  · cases rs
    obtain ⟨a, ys, vs, rfl, hw, hh, r, h2⟩ := atL_ok rh rx h
    exact ⟨a, vs, rfl, rfl, hh, hq _ _ h2 _ _ _ (rh.setW hw ⟨_, rfl, .nil⟩) .non⟩
  · exact h.elim
def revD : DRm := fun x ds w Q => match ds with
  | [] => atL w x fun a xs => Q .non (put w a (.lst xs.reverse))
  | _ => False
theorem tr_rev {K : PySem.W.Frag} : TrRm K "list" rReverse revD := by
  intro H P w x xs dx ds Q' Q rh rx rs h hq
  unfold revD at h
  split at h
  · cases rs
    obtain ⟨a, ys, vs, rfl, hw, hh, r, h2⟩ := atL_ok rh rx h
    exact ⟨a, vs, rfl, rfl, hh, hq _ _ h2 _ _ _ (rh.setW hw ⟨_, rfl, r.reverse⟩) .non⟩
  · exact h.elim
/-! ### o[i] = e -/
def liftSet (K : PySem.W.Frag) : D → D → D → Wd → (Wd → Prop) → Prop := fun o i v w N => match i with
  | .int k => atL w o fun a xs => match ixN xs.length k with
    | some j => N (put w a (.lst (xs.set j v)))
    | none => False
  | _ => False
def dSet (tv to ti : DE) : DS := fun D S w => tv S w fun v w1 => to S w1 fun o w2 => ti S w2 fun i w3 => match i with
  | .int k => atL w3 o fun a xs => match ixN xs.length k with
    | some j => D.nx S (put w3 a (.lst (xs.set j v)))
    | none => False
  | _ => False
section
variable {X : Cx} {W : WX} {W' : DWX} {o i e : Expr} {to ti te : DE} {pos tpos : Pos}
theorem qs_setL (he : QE X W W' e te) (ho : QE X W W' o to) (hi : QE X W W' i ti) (hp : PS X (.Assign [.Subscript o i tpos] e pos) (tAsg (liftE X.K W W' te) (gSub (liftE X.K W W' to) (liftE X.K W W' ti) rSetL))) : QS X W W' (.Assign [.Subscript o i tpos] e pos) (dSet te to ti) := PS.imp hp
  fun D σ H ⟨P, w, S, D', rh, sl, h, hd, hx⟩ => ⟨P, w, S, _, rh, sl, h, fun v w1 h1 vv H1 P1 g1 r1 => ⟨P1, w1, S, _, g1.rh, sl.mono g1.ex, h1, fun o w2 h2 vo H2 P2 g2 r2 => ⟨P2, w2, S, _, g2.rh, sl.mono (g1.trans g2).ex, h2, fun i w3 h3 vi H3 P3 g3 r3 => by
    have g := (g1.trans g2).trans g3
    cases r3 with
    | int k =>
      dsimp only at h3
      obtain ⟨a, ys, vs, rfl, hw, hh, r, h4⟩ := atL_ok g3.rh (r2.mono g3.ex) h3
      split at h4
      · rename_i j hj
        refine ⟨a, vs, k, j, rfl, rfl, hh, by rw [r.length]; exact hj, ?_⟩
        have g4 := g3.rh.setW hw (o := .lst (vs.set j vv)) (m := .lst (ys.set j v)) ⟨_, rfl, r.set (r1.mono (g2.trans g3).ex) j⟩
        exact hd.nx _ _ h4 _ _ _ (g.trans g4) (sl.mono (g.trans g4).ex)
      · exact h4.elim
    | _ => exact h3.elim, hx.go (g1.trans g2)⟩, hx.go g1⟩, hx⟩
end
/-! ### what is walked -/
def itOf (xs : List D) (ok : Wd → Prop) : DIt := ⟨xs.length, fun i => xs.getD i .non, ok⟩
theorem getD_at {xs : List D} {i : Nat} (h : i < xs.length) : xs[i]? = some (xs.getD i .non) := by
  rw [List.getElem?_eq_getElem h, List.getD_eq_getElem?_getD, List.getElem?_eq_getElem h]
  rfl
/-- where the list stands -/
def atSeq (w : Wd) (d : D) (R : List D → (Wd → Prop) → Prop) : Prop := match d with
  | .lst xs => R xs fun _ => True
  | .rol xs => R xs fun _ => True
  | .ref a => match w a with
    | some (.lst xs) => R xs fun w2 => w2 a = some (.lst xs)
    | _ => False
  | _ => False
theorem atSeq_ok {K : PySem.W.Frag} {H P : Hp} {w : Wd} {d : D} {v : V} {R : List D → (Wd → Prop) → Prop} (rh : RH K H P w) (r : Rep K P d v) (h : atSeq w d R) :
    ∃ a xs vs ok, v = .ref a ∧ R xs ok ∧ SqL K H a vs ∧ RepL K P xs vs ∧ ∀ H2 P2 w2, Ex P P2 → RH K H2 P2 w2 → ok w2 → ∃ us, SqL K H2 a us ∧ RepL K P2 xs us := by
  cases r with
  | lst q r =>
    refine ⟨_, _, _, _, rfl, h, SqL.of (rh.per _ _ q), r, fun H2 P2 w2 e rh2 _ => ⟨_, SqL.of (rh2.per _ _ (e _ _ q)), r.mono e⟩⟩
  | rol q r =>
    refine ⟨_, _, _, _, rfl, h, sqL_ex (fun u z => rh.per _ u z) q, r, fun H2 P2 w2 e rh2 _ => ⟨_, sqL_ex (fun u z => rh2.per _ u (e _ _ z)) q, r.mono e⟩⟩
  | ref a =>
    unfold atSeq at h
    dsimp only at h
    split at h
    · rename_i xs hw
      obtain ⟨_, ho, h1, vs, e, r⟩ := rh.own a _ hw
      subst e
      refine ⟨a, xs, vs, _, rfl, h, SqL.of h1, r, fun H2 P2 w2 e rh2 ok => ?_⟩
      obtain ⟨_, ho, h1, vs, e, r⟩ := rh2.own a _ ok
      subst e
      exact ⟨vs, SqL.of h1, r⟩
    · exact h.elim
  | _ => exact h.elim
section
variable {X : Cx} {W : WX} {W' : DWX} {tg e e2 : Expr} {te : DE} {ta : DA} {p pos tpos : Pos}
def diL (te : DE) : DI := fun S w R => te S w fun d w1 => atSeq w1 d fun xs ok => R (itOf xs ok) w1
theorem sqL_fun {K : PySem.W.Frag} {H : Hp} {a : Addr} {xs ys : List V} {its : List Value} (h : SqL K H a xs) : SqL K H a xs := h
theorem itl_ok {K : PySem.W.Frag} {H P : Hp} {w : Wd} {a : Addr} {xs : List D} {ok : Wd → Prop} (h : ∀ H2 P2 w2, Ex P P2 → RH K H2 P2 w2 → ok w2 → ∃ us, SqL K H2 a us ∧ RepL K P2 xs us) : ItOk K H P w (Itl K a) (itOf xs ok) := by
  intro H2 P2 w2 e rh2 hk
  obtain ⟨us, sq, r⟩ := h H2 P2 w2 e rh2 hk
  refine ⟨fun i hi => ?_, us, sq, by rw [r.length]; exact Nat.le_refl _⟩
  obtain ⟨v, hv, rv⟩ := r.get (getD_at hi)
  refine ⟨⟨us, v, sq, hv⟩, fun x H3 ⟨eH, hy⟩ => ⟨P2, by rw [eH]; exact rh2.go, ?_⟩⟩
  have q := hy us sq
  rw [hv] at q
  cases q
  exact rv
theorem qi_list (he : QE X W W' e te) : QI X W W' tg e (diL te) := PI.imp (pi_list he)
  fun σ H R ⟨P, w, S, R', rh, sl, h, hR, hx⟩ => ⟨P, w, S, _, rh, sl, h, fun d w1 h1 v H1 P1 g1 r1 => by
    obtain ⟨a, xs, vs, ok, rfl, hr, sq, r, st⟩ := atSeq_ok g1.rh r1 h1
    exact ⟨a, rfl, ⟨vs, sq⟩, hR _ w1 hr _ H1 P1 g1 (itl_ok st)⟩, hx⟩
def diT (te : DE) : DI := fun S w R => te S w fun d w1 => match d with
  | .tup xs => R (itOf xs fun _ => True) w1
  | .rot xs => R (itOf xs fun _ => True) w1
  | _ => False
theorem itt_ok {K : PySem.W.Frag} {H P : Hp} {w : Wd} {a : Addr} {xs : List D} {ok : Wd → Prop} (h : ∀ H2 P2 w2, Ex P P2 → RH K H2 P2 w2 → ok w2 → ∃ us, SqT K H2 a us ∧ RepL K P2 xs us) : ItOk K H P w (Itt K a) (itOf xs ok) := by
  intro H2 P2 w2 e rh2 hk
  obtain ⟨us, sq, r⟩ := h H2 P2 w2 e rh2 hk
  refine ⟨fun i hi => ?_, us, sq, by rw [r.length]; exact Nat.le_refl _⟩
  obtain ⟨v, hv, rv⟩ := r.get (getD_at hi)
  refine ⟨⟨us, v, sq, hv⟩, fun x H3 ⟨eH, hy⟩ => ⟨P2, by rw [eH]; exact rh2.go, ?_⟩⟩
  have q := hy us sq
  rw [hv] at q
  cases q
  exact rv
theorem qi_tup (he : QE X W W' e te) : QI X W W' tg e (diT te) := PI.imp (pi_tup he)
  fun σ H R ⟨P, w, S, R', rh, sl, h, hR, hx⟩ => ⟨P, w, S, _, rh, sl, h, fun d w1 h1 v H1 P1 g1 r1 => by
    cases r1 with
    | tup q r => exact ⟨_, rfl, ⟨_, SqT.of (g1.rh.per _ _ q)⟩, hR _ w1 h1 _ H1 P1 g1 (itt_ok fun H2 P2 w2 e rh2 _ => ⟨_, SqT.of (rh2.per _ _ (e _ _ q)), r.mono e⟩)⟩
    | rot q r => exact ⟨_, rfl, ⟨_, sqT_ex (fun u z => g1.rh.per _ u z) q⟩, hR _ w1 h1 _ H1 P1 g1 (itt_ok fun H2 P2 w2 e rh2 _ => ⟨_, sqT_ex (fun u z => rh2.per _ u (e _ _ z)) q, r.mono e⟩)⟩
    | _ => exact h1.elim, hx⟩
def itR (lo : Int) (n : Nat) : DIt := ⟨n, fun i => .int (lo + i), fun _ => True⟩
theorem itr_ok {K : PySem.W.Frag} {H P : Hp} {w : Wd} {lo : Int} {n : Nat} : ItOk K H P w (Itr lo n) (itR lo n) := fun H2 P2 w2 e rh2 _ => ⟨fun i hi => ⟨hi, fun x H3 ⟨eH, ex⟩ => ⟨P2, by rw [eH]; exact rh2.go, by rw [ex]; exact .int _⟩⟩, Nat.le_refl _⟩
def diR1 (ta : DA) : DI := fun S w R => ta S w fun ds w1 => match ds with
  | [.int j] => -(2 ^ 62) ≤ j ∧ j < 2 ^ 62 ∧ R (itR 0 j.toNat) w1
  | _ => False
def diR2 (ta : DA) : DI := fun S w R => ta S w fun ds w1 => match ds with
  | [.int i, .int j] => (-(2 ^ 62) ≤ i ∧ i < 2 ^ 62 ∧ -(2 ^ 62) ≤ j ∧ j < 2 ^ 62) ∧ R (itR i (j - i).toNat) w1
  | _ => False
theorem qi_range1 {a : Expr} (hm : X.mg "range" = none) (ha : QA X W W' [a] ta) (hg : Gl X "range" := by rfl) (hs : starEach [a] X.env = [(false, eval a X.env)] := by rfl) : QI X W W' tg (.Call (.Name "range" p) [a] [] pos) (diR1 ta) := PI.imp (pi_range1 hg hm ha hs)
  fun σ H R ⟨P, w, S, R', rh, sl, h, hR, hx⟩ => ⟨P, w, S, _, rh, sl, h, fun ds w1 h1 vs H1 P1 g1 r1 => by
    dsimp only at h1
    split at h1
    · cases r1 with
      | cons q1 q2 => cases q2; cases q1; exact ⟨_, rfl, h1.1, h1.2.1, hR _ w1 h1.2.2 _ H1 P1 g1 itr_ok⟩
    · exact h1.elim, hx⟩
theorem qi_range2 {a b : Expr} (hm : X.mg "range" = none) (ha : QA X W W' [a, b] ta) (hg : Gl X "range" := by rfl) (hs : starEach [a, b] X.env = [(false, eval a X.env), (false, eval b X.env)] := by rfl) (hs2 : starEach [b] X.env = [(false, eval b X.env)] := by rfl) : QI X W W' tg (.Call (.Name "range" p) [a, b] [] pos) (diR2 ta) := PI.imp (pi_range2 hg hm ha hs hs2)
  fun σ H R ⟨P, w, S, R', rh, sl, h, hR, hx⟩ => ⟨P, w, S, _, rh, sl, h, fun ds w1 h1 vs H1 P1 g1 r1 => by
    dsimp only at h1
    split at h1
    · cases r1 with
      | cons q1 q2 => cases q2 with
        | cons q3 q4 => cases q4; cases q1; cases q3; exact ⟨_, _, rfl, h1.1, hR _ w1 h1.2 _ H1 P1 g1 itr_ok⟩
    · exact h1.elim, hx⟩
def itS (z : Str) : DIt := ⟨z.cps.size, fun i => .str ⟨#[z.cps.toList.getD i 0]⟩, fun _ => True⟩
def diS (te : DE) : DI := fun S w R => te S w fun d w1 => match d with
  | .str z => R (itS z) w1
  | _ => False
theorem qi_str (he : QE X W W' e te) : QI X W W' tg e (diS te) := PI.imp (pi_str he)
  fun σ H R ⟨P, w, S, R', rh, sl, h, hR, hx⟩ => ⟨P, w, S, _, rh, sl, h, fun d w1 h1 v H1 P1 g1 r1 => by
    cases r1 with
    | str z =>
      refine ⟨z, rfl, hR _ w1 h1 _ H1 P1 g1 fun H2 P2 w2 e rh2 _ => ⟨fun i hi => ⟨hi, fun x H3 ⟨eH, c, hc, ex⟩ => ⟨P2, by rw [eH]; exact rh2.go, ?_⟩⟩, Nat.le_refl _⟩⟩
      rw [ex]
      have e1 : z.cps.toList.getD i 0 = c := by
        rw [List.getD_eq_getElem?_getD, Array.getElem?_toList, hc]; rfl
      show Rep X.K P2 (.str ⟨#[z.cps.toList.getD i 0]⟩) _
      rw [e1]
      exact .str _
    | _ => exact h1.elim, hx⟩
def itE (xs : List D) (ok : Wd → Prop) : DIt := ⟨xs.length, fun i => .tup [.int (i : Nat), xs.getD i .non], ok⟩
def diE (ta : DA) : DI := fun S w R => ta S w fun ds w1 => match ds with
  | [d] => atSeq w1 d fun xs ok => R (itE xs ok) w1
  | _ => False
theorem qi_enum {elts : List Expr} {kk : Nat} (hm : X.mg "enumerate" = none) (ha : QA X W W' [e] ta) (hg : Gl X "enumerate" := by rfl) (hs : starEach [e] X.env = [(false, eval e X.env)] := by rfl) :
    QI X W W' (.Tuple elts kk tpos) (.Call (.Name "enumerate" p) [e] [] pos) (diE ta) := PI.imp (pi_enum hg hm ha hs)
  fun σ H R ⟨P, w, S, R', rh, sl, h, hR, hx⟩ => ⟨P, w, S, _, rh, sl, h, fun ds w1 h1 vs H1 P1 g1 r1 => by
    dsimp only at h1
    split at h1
    · cases r1 with
      | cons q1 q2 =>
        cases q2
        obtain ⟨a, xs, vs, ok, rfl, hr, sq, r, st⟩ := atSeq_ok g1.rh q1 h1
        refine ⟨a, vs, rfl, sq, hR _ w1 hr _ H1 P1 g1 fun H2 P2 w2 e rh2 hk => ?_⟩
        obtain ⟨us, sq, r⟩ := st H2 P2 w2 e rh2 hk
        refine ⟨fun i hi => ?_, us, sq, by rw [r.length]; exact Nat.le_refl _⟩
        obtain ⟨v, hv, rv⟩ := r.get (getD_at hi)
        refine ⟨⟨us, v, sq, hv⟩, fun x H3 ⟨T, y, ex, hT, eH, hy⟩ => ?_⟩
        have q := hy us sq
        rw [hv] at q
        cases q
        subst ex eH
        have g := rh2.newP (o := .tup [.int (i : Nat), v]) hT
        exact ⟨_, g, .tup upd_same (.cons (.int _) (.cons (rv.mono g.ex) .nil))⟩
    · exact h1.elim, hx⟩
def itV (xs : List D) (ok : Wd → Prop) : DIt := ⟨xs.length, fun i => xs.getD (xs.length - 1 - i) .non, ok⟩
def diV (ta : DA) : DI := fun S w R => ta S w fun ds w1 => match ds with
  | [d] => atSeq w1 d fun xs ok => R (itV xs ok) w1
  | _ => False
theorem qi_rev (hm : X.mg "reversed" = none) (ha : QA X W W' [e] ta) (hg : Gl X "reversed" := by rfl) (hs : starEach [e] X.env = [(false, eval e X.env)] := by rfl) : QI X W W' tg (.Call (.Name "reversed" p) [e] [] pos) (diV ta) := PI.imp (pi_reversed hg hm ha hs)
  fun σ H R ⟨P, w, S, R', rh, sl, h, hR, hx⟩ => ⟨P, w, S, _, rh, sl, h, fun ds w1 h1 vs H1 P1 g1 r1 => by
    dsimp only at h1
    split at h1
    · cases r1 with
      | cons q1 q2 =>
        cases q2
        obtain ⟨a, xs, vs, ok, rfl, hr, sq, r, st⟩ := atSeq_ok g1.rh q1 h1
        have el := r.length
        refine ⟨a, vs, rfl, sq, hR _ w1 hr _ H1 P1 g1 fun H2 P2 w2 e rh2 hk => ?_⟩
        obtain ⟨us, sq, r⟩ := st H2 P2 w2 e rh2 hk
        rw [el]
        refine ⟨fun i hi => ?_, Nat.le_refl _⟩
        have hi' : i < xs.length := hi
        obtain ⟨v, hv, rv⟩ := r.get (getD_at (show xs.length - 1 - i < xs.length by omega))
        refine ⟨⟨hi', us, v, sq, hv⟩, fun x H3 ⟨eH, hy⟩ => ⟨P2, by rw [eH]; exact rh2.go, ?_⟩⟩
        have q := hy us sq
        rw [hv] at q
        cases q
        exact rv
    · exact h1.elim, hx⟩
def itZ (xs ys : List D) (ok : Wd → Prop) : DIt := ⟨min xs.length ys.length, fun i => .tup [xs.getD i .non, ys.getD i .non], ok⟩
def diZ (ta : DA) : DI := fun S w R => ta S w fun ds w1 => match ds with
  | [d, e] => atSeq w1 d fun xs ok => atSeq w1 e fun ys ok2 => R (itZ xs ys fun w2 => ok w2 ∧ ok2 w2) w1
  | _ => False
theorem qi_zip {elts : List Expr} {kk : Nat} (hm : X.mg "zip" = none) (ha : QA X W W' [e, e2] ta) (hg : Gl X "zip" := by rfl) (hs : starEach [e, e2] X.env = (false, eval e X.env) :: starEach [e2] X.env := by rfl) (hpl : (backTo pos (starEach [e2] X.env)).any (·.1) = false := by rfl) :
    QI X W W' (.Tuple elts kk tpos) (.Call (.Name "zip" p) [e, e2] [] pos) (diZ ta) := PI.imp (pi_zip hg hm ha hs hpl)
  fun σ H R ⟨P, w, S, R', rh, sl, h, hR, hx⟩ => ⟨P, w, S, _, rh, sl, h, fun ds w1 h1 vs H1 P1 g1 r1 => by
    dsimp only at h1
    split at h1
    · cases r1 with
      | cons q1 q2 => cases q2 with
        | cons q3 q4 =>
          cases q4
          obtain ⟨a, xs, vs, ok, rfl, hr, sq, r, st⟩ := atSeq_ok g1.rh q1 h1
          obtain ⟨b, ys, us, ok2, rfl, hr2, sq2, r2, st2⟩ := atSeq_ok g1.rh q3 hr
          refine ⟨a, b, vs, us, rfl, sq, sq2, hR _ w1 hr2 _ H1 P1 g1 fun H2 P2 w2 e rh2 hk => ?_⟩
          obtain ⟨us, sq, r⟩ := st H2 P2 w2 e rh2 hk.1
          obtain ⟨zs, sq2, r2⟩ := st2 H2 P2 w2 e rh2 hk.2
          refine ⟨fun i hi => ?_, us, zs, sq, sq2, ?_⟩
          · have hi' : i < min xs.length ys.length := hi
            obtain ⟨v, hv, rv⟩ := r.get (getD_at (show i < xs.length by omega))
            obtain ⟨u, hu, ru⟩ := r2.get (getD_at (show i < ys.length by omega))
            refine ⟨⟨us, zs, v, u, sq, sq2, hv, hu⟩, fun x H3 ⟨T, y, z, ex, hT, eH, hy, hz⟩ => ?_⟩
            have q := hy us sq
            have q' := hz zs sq2
            rw [hv] at q
            rw [hu] at q'
            cases q
            cases q'
            subst ex eH
            have g := rh2.newP (o := .tup [v, u]) hT
            exact ⟨_, g, .tup upd_same (.cons (rv.mono g.ex) (.cons (ru.mono g.ex) .nil))⟩
          · rw [r.length, r2.length]
            show _ ≤ min xs.length ys.length ∨ _ ≤ min xs.length ys.length
            omega
    · exact h1.elim, hx⟩
end
/-! ### a def -/
def startD (N : List Str) (ds : List D) : DSt := ds.map some ++ List.replicate (N.length - ds.length) none
theorem slots_start {K : PySem.W.Frag} {P : Hp} (N : List Str) : ∀ {ds : List D} {vs : List V}, RepL K P ds vs → Slots K P (startD N ds) (L2.start N vs) := by
  intro ds vs r
  refine ⟨by unfold startD L2.start; simp [r.length], fun i d h => ?_⟩
  unfold startD at h
  unfold L2.start
  by_cases hi : i < ds.length
  · rw [List.getElem?_append_left (by simpa using hi), List.getElem?_map] at h
    cases e : ds[i]? with
    | none => rw [e] at h; cases h
    | some d' =>
      rw [e] at h
      cases h
      obtain ⟨v, hv, rv⟩ := r.get e
      refine ⟨v, ?_, rv⟩
      rw [List.getElem?_append_left (by simp [r.length, hi]), List.getElem?_map, hv]
      rfl
  · rw [List.getElem?_append_right (by simp; omega)] at h
    have := List.getElem?_eq_some_iff.mp h
    obtain ⟨h1, h2⟩ := this
    simp at h2
theorem fn_ok {P : Program} {w : World} {K : PySem.W.Frag} {mg : Str → Option Value} {base : Heap} {x qual : Str} {params : Arguments} {body : List Stmt} {scope : Scope} {dvs : List V} {kws : List (Str × V)} {f : Addr} {fd : FuncData} {N ps : List Str} {k : Nat} {sp : DSp} {t : DX → DS}
    (F : FunD K x qual params body scope dvs kws f fd) (Sc : FnScope N ps scope) (len : ∀ ds w Q E, sp ds w Q E → ds.length = ps.length)
    (bd : ∀ (cdv : Value) (A : Around) (outer : List Env) (s : Shared) (H : Hp) (E : XK) (E' : DX), Room k (A.deeper (envOfC qual scope s.heap.objs.size f cdv)) →
      QSs (cxOf (L2N.CX P w) P w K mg base N qual scope f cdv A outer s H E) (fun c d _ H => E c d H) (fun c d _ w => E' c d w) body (t E'))
    (red : ∀ ds w Q E, sp ds w Q E → t E { nx := fun _ w1 => Q .non w1, rt := Q } (startD N ds) w) : FnOk P w K mg base (L2N.CX P w) (k + 1) f fd ps (lift K sp) :=
  F.ok Sc (fun vs H Q E ⟨P, w, ds, Q', E', rh, r, h, _⟩ => by rw [r.length]; exact len ds w Q' E' h) fun cdv A outer s H vs Q E hr ⟨P', w', ds, Q', E', rh, r, h, hq, hx⟩ =>
    ⟨_, bd cdv A outer s H E E' hr, P', w', startD N ds, { nx := fun _ w1 => Q' .non w1, rt := Q' }, rh, slots_start N r, red ds w' Q' E' h,
      ⟨fun S1 w1 h1 σ1 H1 P1 g1 _ => hq _ w1 h1 _ H1 P1 g1 .non, hq, fun _ _ z => z.elim, fun _ _ z => z.elim⟩, fun c x S1 w1 h1 dd σ1 H1 P1 g1 _ z => hx c x w1 h1 dd H1 P1 g1 z⟩
end TD

set_option maxHeartbeats 2000000
namespace TD
open PySem PySem.Spec PyProof.Rows L2
/-! ### short words for the printed derivations -/
abbrev subD : DR2 := iD fun i j => .int (i - j)
abbrev fdivD : DR2 := iiD CDiv fun i j => .int (i / j)
abbrev modD : DR2 := iiD (fun _ j => 0 < j) fun i j => .int (i % j)
abbrev powD : DR2 := iiD CPow fun i j => .int (i ^ j.toNat)
abbrev ltD : DR2 := iD fun i j => .bl (decide (i < j))
abbrev leD : DR2 := iD fun i j => .bl (decide (i ≤ j))
abbrev gtD : DR2 := iD fun i j => .bl (decide (j < i))
abbrev geD : DR2 := iD fun i j => .bl (decide (j ≤ i))
def negD : DR1 := fun x w Q => match x with
  | .int i => Q (.int (-i)) w
  | _ => False
theorem tr_neg {K : PySem.W.Frag} : TrR1 K (rU fun i => .int (-i)) negD := by
  intro H P w x dx Q' Q rh rx h hq
  cases rx with
  | int i => exact ⟨i, rfl, hq _ w h _ H P rh.go (.int _)⟩
  | _ => exact h.elim
section
variable {X : Cx} {W : WX} {W' : DWX} {a b c e : Expr} {es : List Expr} {ta tb tc te : DE} {pos p : Pos} {t : DA} {j : Nat}
theorem qe_add (ha : QE X W W' a ta) (hb : QE X W W' b tb) : QE X W W' (.BinOp a .Add b pos) (dOp addD ta tb) := qe_op op_addA tr_addA ha hb
theorem qe_sub (ha : QE X W W' a ta) (hb : QE X W W' b tb) : QE X W W' (.BinOp a .Sub b pos) (dOp subD ta tb) := qe_op op_sub tr_i ha hb
theorem qe_mul (ha : QE X W W' a ta) (hb : QE X W W' b tb) : QE X W W' (.BinOp a .Mult b pos) (dOp mulD ta tb) := qe_op op_mulA tr_mulA ha hb
theorem qe_fdiv (ha : QE X W W' a ta) (hb : QE X W W' b tb) : QE X W W' (.BinOp a .FloorDiv b pos) (dOp fdivD ta tb) := qe_op op_fdiv tr_ii ha hb
theorem qe_mod (ha : QE X W W' a ta) (hb : QE X W W' b tb) : QE X W W' (.BinOp a .Mod b pos) (dOp modD ta tb) := qe_op op_mod tr_ii ha hb
theorem qe_pow (ha : QE X W W' a ta) (hb : QE X W W' b tb) : QE X W W' (.BinOp a .Pow b pos) (dOp powD ta tb) := qe_op op_pow tr_ii ha hb
theorem qe_neg (ha : QE X W W' a ta) : QE X W W' (.UnaryOp .USub a pos) (dUn negD ta) := qe_un un_neg tr_neg ha
theorem qe_eq (hr : Room j X.A) (ha : QE X W W' a ta) (hb : QE X W W' b tb) : QE X W W' (.Compare a [.Eq] [b] pos) (dOp (eqD false) ta tb) := qe_cmp (op_eqA hr.units) tr_eq ha hb
theorem qe_ne (hr : Room j X.A) (ha : QE X W W' a ta) (hb : QE X W W' b tb) : QE X W W' (.Compare a [.NotEq] [b] pos) (dOp (eqD true) ta tb) := qe_cmp (op_neA hr.units) tr_ne ha hb
theorem qe_lt (ha : QE X W W' a ta) (hb : QE X W W' b tb) : QE X W W' (.Compare a [.Lt] [b] pos) (dOp ltD ta tb) := qe_cmp op_lt tr_ib ha hb
theorem qe_le (ha : QE X W W' a ta) (hb : QE X W W' b tb) : QE X W W' (.Compare a [.LtE] [b] pos) (dOp leD ta tb) := qe_cmp op_le tr_ib ha hb
theorem qe_gt (ha : QE X W W' a ta) (hb : QE X W W' b tb) : QE X W W' (.Compare a [.Gt] [b] pos) (dOp gtD ta tb) := qe_cmp op_gt tr_ib ha hb
theorem qe_ge (ha : QE X W W' a ta) (hb : QE X W W' b tb) : QE X W W' (.Compare a [.GtE] [b] pos) (dOp geD ta tb) := qe_cmp op_ge tr_ib ha hb
theorem qe_is (ha : QE X W W' a ta) (hb : QE X W W' b tb) : QE X W W' (.Compare a [.Is] [b] pos) (dOp (isN false) ta tb) := qe_cmp op_isN tr_isN ha hb
theorem qe_isnt (ha : QE X W W' a ta) (hb : QE X W W' b tb) : QE X W W' (.Compare a [.IsNot] [b] pos) (dOp (isN true) ta tb) := qe_cmp op_notN tr_notN ha hb
theorem qe_in (hr : Room j X.A) (ha : QE X W W' a ta) (hb : QE X W W' b tb) (hm : behindInMarks .In b = false := by rfl) : QE X W W' (.Compare a [.In] [b] pos) (dOp (inD false) ta tb) := qe_cmp (op_inA hr.units) tr_in ha hb hm
theorem qe_nin (hr : Room j X.A) (ha : QE X W W' a ta) (hb : QE X W W' b tb) (hm : behindInMarks .NotIn b = false := by rfl) : QE X W W' (.Compare a [.NotIn] [b] pos) (dOp (inD true) ta tb) := qe_cmp (op_ninA hr.units) tr_in ha hb hm
theorem qt_eq (hr : Room j X.A) (ha : QE X W W' a ta) (hb : QE X W W' b tb) : QT X W W' (.Compare a [.Eq] [b] pos) (dB (dOp (eqD false) ta tb)) := qt_cmp (op_eqA hr.units) tr_eq ha hb
theorem qt_ne (hr : Room j X.A) (ha : QE X W W' a ta) (hb : QE X W W' b tb) : QT X W W' (.Compare a [.NotEq] [b] pos) (dB (dOp (eqD true) ta tb)) := qt_cmp (op_neA hr.units) tr_ne ha hb
theorem qt_lt (ha : QE X W W' a ta) (hb : QE X W W' b tb) : QT X W W' (.Compare a [.Lt] [b] pos) (dB (dOp ltD ta tb)) := qt_cmp op_lt tr_ib ha hb
theorem qt_le (ha : QE X W W' a ta) (hb : QE X W W' b tb) : QT X W W' (.Compare a [.LtE] [b] pos) (dB (dOp leD ta tb)) := qt_cmp op_le tr_ib ha hb
theorem qt_gt (ha : QE X W W' a ta) (hb : QE X W W' b tb) : QT X W W' (.Compare a [.Gt] [b] pos) (dB (dOp gtD ta tb)) := qt_cmp op_gt tr_ib ha hb
theorem qt_ge (ha : QE X W W' a ta) (hb : QE X W W' b tb) : QT X W W' (.Compare a [.GtE] [b] pos) (dB (dOp geD ta tb)) := qt_cmp op_ge tr_ib ha hb
theorem qt_is (ha : QE X W W' a ta) (hb : QE X W W' b tb) : QT X W W' (.Compare a [.Is] [b] pos) (dB (dOp (isN false) ta tb)) := qt_cmp op_isN tr_isN ha hb
theorem qt_isnt (ha : QE X W W' a ta) (hb : QE X W W' b tb) : QT X W W' (.Compare a [.IsNot] [b] pos) (dB (dOp (isN true) ta tb)) := qt_cmp op_notN tr_notN ha hb
theorem qt_in (hr : Room j X.A) (ha : QE X W W' a ta) (hb : QE X W W' b tb) (hm : behindInMarks .In b = false := by rfl) : QT X W W' (.Compare a [.In] [b] pos) (dB (dOp (inD false) ta tb)) := qt_cmp (op_inA hr.units) tr_in ha hb hm
theorem qt_nin (hr : Room j X.A) (ha : QE X W W' a ta) (hb : QE X W W' b tb) (hm : behindInMarks .NotIn b = false := by rfl) : QT X W W' (.Compare a [.NotIn] [b] pos) (dB (dOp (inD true) ta tb)) := qt_cmp (op_ninA hr.units) tr_in ha hb hm
/-- a <= b <= c of ints: l, e for < and <= -/
theorem qe_ee (ha : QE X W W' a ta) (hb : QE X W W' b tb) (hc : QE X W W' c tc) (hm : lastMarks [.LtE, .LtE] [b, c] = false := by with_unfolding_all rfl) : QE X W W' (.Compare a [.LtE, .LtE] [b, c] pos) (dChain leD leD ta tb tc) := qe_chain op_le tr_ib op_le tr_ib ha hb hc hm
theorem qe_el (ha : QE X W W' a ta) (hb : QE X W W' b tb) (hc : QE X W W' c tc) (hm : lastMarks [.LtE, .Lt] [b, c] = false := by with_unfolding_all rfl) : QE X W W' (.Compare a [.LtE, .Lt] [b, c] pos) (dChain leD ltD ta tb tc) := qe_chain op_le tr_ib op_lt tr_ib ha hb hc hm
theorem qt_ee (ha : QE X W W' a ta) (hb : QE X W W' b tb) (hc : QE X W W' c tc) (hm : lastMarks [.LtE, .LtE] [b, c] = false := by with_unfolding_all rfl) : QT X W W' (.Compare a [.LtE, .LtE] [b, c] pos) (dB (dChain leD leD ta tb tc)) := qt_chain op_le tr_ib op_le tr_ib ha hb hc hm
theorem qt_el (ha : QE X W W' a ta) (hb : QE X W W' b tb) (hc : QE X W W' c tc) (hm : lastMarks [.LtE, .Lt] [b, c] = false := by with_unfolding_all rfl) : QT X W W' (.Compare a [.LtE, .Lt] [b, c] pos) (dB (dChain leD ltD ta tb tc)) := qt_chain op_le tr_ib op_lt tr_ib ha hb hc hm
theorem qe_sub_ (hr : Room j X.A) (ha : QE X W W' a ta) (hb : QE X W W' b tb) (hs : PlainIx b := by exact fun _ _ => rfl) : QE X W W' (.Subscript a b pos) (dOp ixD ta tb) := qe_ix (ix_any hr.units) tr_ix ha hb hs
theorem qe_sl {lo hi : Option Expr} {tl th : DO} {p2 : Pos} (he : QE X W W' e te) (hl : QO X W W' lo tl) (hu : QO X W W' hi th) : QE X W W' (.Subscript e (.Slice lo hi none p2) pos) (dSl slD te tl th) := qe_slice sl_all tr_sl he hl hu
theorem qe_slO {lo hi : Option Expr} {tl th : DO} {p2 : Pos} (he : QE X W W' e te) (hl : QO X W W' lo tl) (hu : QO X W W' hi th) : QE X W W' (.Subscript e (.Slice lo hi none p2) pos) (dSl slDO te tl th) := qe_slice sl_all tr_slO he hl hu
theorem qe_gint {x : Str} {i : Int} (hm : ∃ t, X.mg x = some (.int i t)) (hg : Gl X x := by rfl) (hd : (x == ("__debug__" : Str)) = false := by decide) : QE X W W' (.Name x pos) (dC (.int i)) := by
  obtain ⟨t, h⟩ := hm
  exact qe_glob h (v := .int i) ⟨t, rfl⟩ (fun _ => .int i) hg hd
theorem qe_gstr {x z : Str} (hm : ∃ t, X.mg x = some (.str z t)) (hg : Gl X x := by rfl) (hd : (x == ("__debug__" : Str)) = false := by decide) : QE X W W' (.Name x pos) (dC (.str z)) := by
  obtain ⟨t, h⟩ := hm
  exact qe_glob h (v := .str z) ⟨t, rfl⟩ (fun _ => .str z) hg hd
theorem qe_ty {x : Str} {n : String} (hm : X.mg x = none) (hv : bootBuiltins x = some (.type n)) (hg : Gl X x := by rfl) (hn : x ≠ "__name__" := by decide) (hd : (x == ("__debug__" : Str)) = false := by decide) : QE X W W' (.Name x pos) (dC (.ty n)) := qc (pe_bltn (v := .ty n) hg hm hv rfl hn hd) fun _ => .ty n
theorem qe_len (hm : X.mg "len" = none) (ha : QA X W W' [e] t) (hg : Gl X "len" := by rfl) (he : starEach [e] X.env = (false, eval e X.env) :: starEach [] X.env := by rfl) : QE X W W' (.Call (.Name "len" p) [e] [] pos) (dCB lenD t) := qe_callB call_lenA tr_len hm PySem.boot_len ha hg (by decide) (by decide) he
end
theorem tk0 {X : Cx} : L2N.Takes X W0 := fun _ _ x => by
  obtain ⟨_, _, _, _, _, _, _, _, _, _, _, _, _, _, _, _, z⟩ := x
  exact z.elim
/-- an own def under its name -/
structure Own (P : Program) (w : World) (K : PySem.W.Frag) (mg : Str → Option Value) (base : Heap) (x : Str) (k : Nat) (ps : List Str) (sp : DSp) : Prop where
  ex : ∃ f fd, FnOk P w K mg base (L2N.CX P w) k f fd ps (lift K sp) ∧ mg x = some (.ref f) ∧ PySem.W.keepIn K (.ref f) = true ∧ Binds K fd ps []
theorem qe_fn {X : Cx} {W : WX} {W' : DWX} {e : Expr} {es : List Expr} {pos p : Pos} {t : DA} {sp : DSp} {k j : Nat} {ps : List Str} {x : Str} (G : Own X.prog X.w X.K X.mg X.base x k ps sp) (hr : Room j X.A) (tk : L2N.Takes X W)
    (ha : QA X W W' (e :: es) t) (hj : k ≤ j := by first | decide | omega) (hg : Gl X x := by rfl) (hdb : (x == ("__debug__" : Str)) = false := by decide) (he : starEach (e :: es) X.env = (false, eval e X.env) :: starEach es X.env := by rfl) (hpl : (backTo pos (starEach es X.env)).any (·.1) = false := by rfl) :
    QE X W W' (.Call (.Name x p) (e :: es) [] pos) (dCall sp W' t) := by
  obtain ⟨f, fd, F, hm, hk, hb⟩ := G.ex
  exact qe_call F (hr.mono hj) hm hk hb tk ha hg hdb he hpl
end TD

set_option maxHeartbeats 2000000
namespace TD
open PySem PySem.Spec PyProof.Rows L2
/-! ### equations for the walk -/
section
variable {w : Wd} {Q : DKt} {i j : Int} {a b : Str} {xs ys : List D} {x y d : D} {p : Addr} {neg : Bool}
theorem addD_ii : addD (.int i) (.int j) w Q = Q (.int (i + j)) w := rfl
theorem addD_ss : addD (.str a) (.str b) w Q = (a.length + b.length ≤ sizeLine ∧ Q (.str (a ++ b)) w) := rfl
theorem addD_tt : addD (.tup xs) (.tup ys) w Q = (xs.length + ys.length ≤ sizeLine ∧ Q (.tup (xs ++ ys)) w) := rfl
theorem addD_ll : addD (.lst xs) (.lst ys) w Q = (xs.length + ys.length ≤ sizeLine ∧ Q (.lst (xs ++ ys)) w) := rfl
theorem subD_ii : subD (.int i) (.int j) w Q = Q (.int (i - j)) w := rfl
theorem mulD_ii : mulD (.int i) (.int j) w Q = (CMul i j ∧ Q (.int (i * j)) w) := rfl
theorem mulD_li : mulD (.lst xs) (.int j) w Q = (-(2 ^ 63) ≤ j ∧ j < 2 ^ 63 ∧ xs.length * j.toNat ≤ sizeLine ∧ Q (.lst (List.replicate j.toNat xs).flatten) w) := rfl
theorem fdivD_ii : fdivD (.int i) (.int j) w Q = (CDiv i j ∧ Q (.int (i / j)) w) := rfl
theorem modD_ii : modD (.int i) (.int j) w Q = (0 < j ∧ Q (.int (i % j)) w) := rfl
theorem powD_ii : powD (.int i) (.int j) w Q = (CPow i j ∧ Q (.int (i ^ j.toNat)) w) := rfl
theorem negD_i : negD (.int i) w Q = Q (.int (-i)) w := rfl
theorem ltD_ii : ltD (.int i) (.int j) w Q = Q (.bl (decide (i < j))) w := rfl
theorem leD_ii : leD (.int i) (.int j) w Q = Q (.bl (decide (i ≤ j))) w := rfl
theorem gtD_ii : gtD (.int i) (.int j) w Q = Q (.bl (decide (j < i))) w := rfl
theorem geD_ii : geD (.int i) (.int j) w Q = Q (.bl (decide (j ≤ i))) w := rfl
theorem eqD_ii : eqD neg (.int i) (.int j) w Q = Q (.bl (neg != decide (i = j))) w := rfl
theorem eqD_ss : eqD neg (.str a) (.str b) w Q = Q (.bl (neg != decide (a = b))) w := rfl
theorem eqD_bb {k l : Bool} : eqD neg (.bl k) (.bl l) w Q = Q (.bl (neg != decide (k = l))) w := rfl
theorem eqD_nn : eqD neg .non .non w Q = Q (.bl (neg != true)) w := rfl
theorem eqD_ni : eqD neg .non (.int i) w Q = Q (.bl (neg != false)) w := rfl
theorem eqD_in : eqD neg (.int i) .non w Q = Q (.bl (neg != false)) w := rfl
theorem eqD_deep {dx dy : PyData} (hs : eqS x y = none) (hx : pyOf w x = some dx) (hy : pyOf w y = some dy) : eqD neg x y w Q = (SeqAt.shaped dx = true ∧ SeqAt.shaped dy = true ∧ Q (.bl (neg != PyData.eqv dx dy)) w) := by
  unfold eqD; rw [hs, hx, hy]
theorem isN_x : isN neg x .non w Q = Q (.bl (neg != isNon x)) w := rfl
theorem isNon_non : isNon .non = true := rfl
theorem isNon_int : isNon (.int i) = false := rfl
theorem isNon_str : isNon (.str a) = false := rfl
theorem isNon_bl {k : Bool} : isNon (.bl k) = false := rfl
theorem isNon_lst : isNon (.lst xs) = false := rfl
theorem isNon_tup : isNon (.tup xs) = false := rfl
theorem isNon_ref : isNon (.ref p) = false := rfl
theorem lenD_l : lenD [.lst xs] w Q = Q (.int xs.length) w := rfl
theorem lenD_r : lenD [.rol xs] w Q = Q (.int xs.length) w := rfl
theorem lenD_t : lenD [.tup xs] w Q = Q (.int xs.length) w := rfl
theorem lenD_s : lenD [.str a] w Q = (a.length ≤ sizeLine ∧ Q (.int a.length) w) := rfl
theorem lenD_w (h : w p = some (.lst xs)) : lenD [.ref p] w Q = Q (.int xs.length) w := by
  unfold lenD; simp only [getS, getL, h]
theorem lenD_k {kvs : List (Key × D)} (h : w p = some (.dK kvs)) : lenD [.ref p] w Q = Q (.int kvs.length) w := by
  unfold lenD; simp only [getS, getL, getK, h]
theorem ixD_l (h : atI xs i = some d) : ixD (.lst xs) (.int i) w Q = Q d w := by
  unfold ixD ixG; simp only [getS, getL, h]
theorem ixD_r (h : atI xs i = some d) : ixD (.rol xs) (.int i) w Q = Q d w := by
  unfold ixD ixG; simp only [getS, getL, h]
theorem ixD_t (h : atI xs i = some d) : ixD (.tup xs) (.int i) w Q = Q d w := by
  unfold ixD ixG; simp only [getS, h]
theorem ixD_w (hw : w p = some (.lst xs)) (h : atI xs i = some d) : ixD (.ref p) (.int i) w Q = Q d w := by
  unfold ixD ixG; simp only [getS, getL, hw, h]
theorem ixD_s {c : Nat} (hz : a.length ≤ sizeLine) (h : atI a.cps.toList i = some c) : ixD (.str a) (.int i) w Q = Q (.str ⟨#[c]⟩) w := by
  unfold ixD; simp only [h, hz, true_and]
theorem inD_l (hx : flatD x = true) (h : xs.all flatD = true) (hs : ∀ z, x ≠ .str z ∨ True) : inD neg x (.lst xs) w Q = Q (.bl (neg != inL x xs)) w := by
  have e : inD neg x (.lst xs) w Q = inG neg x (.lst xs) w Q := by cases x <;> rfl
  rw [e]; unfold inG; simp only [getS, getL, hx, h, true_and]
theorem inD_lst (hx : flatD x = true) (h : xs.all flatD = true) : inD neg x (.lst xs) w Q = Q (.bl (neg != inL x xs)) w := inD_l hx h fun _ => .inr trivial
theorem inD_tup (hx : flatD x = true) (h : xs.all flatD = true) : inD neg x (.tup xs) w Q = Q (.bl (neg != inL x xs)) w := by
  have e : inD neg x (.tup xs) w Q = inG neg x (.tup xs) w Q := by cases x <;> rfl
  rw [e]; unfold inG; simp only [getS, hx, h, true_and]
theorem inD_rot (hx : flatD x = true) (h : xs.all flatD = true) : inD neg x (.rot xs) w Q = Q (.bl (neg != inL x xs)) w := by
  have e : inD neg x (.rot xs) w Q = inG neg x (.rot xs) w Q := by cases x <;> rfl
  rw [e]; unfold inG; simp only [getS, hx, h, true_and]
theorem inD_w (hw : w p = some (.lst xs)) (hx : flatD x = true) (h : xs.all flatD = true) : inD neg x (.ref p) w Q = Q (.bl (neg != inL x xs)) w := by
  have e : inD neg x (.ref p) w Q = inG neg x (.ref p) w Q := by cases x <;> rfl
  rw [e]; unfold inG; simp only [getS, getL, hw, hx, h, true_and]
theorem inD_c {c : Nat} (h : a.cps.toList = [c]) : inD neg (.str a) (.str b) w Q = Q (.bl (neg != decide (c ∈ b.cps.toList))) w := by
  unfold inD; simp only [h]
theorem slD_l {lo hi : Option Int} : slD (.lst xs) lo hi w Q = Q (.lst (cutD xs lo hi)) w := rfl
theorem slD_t {lo hi : Option Int} : slD (.tup xs) lo hi w Q = Q (.tup (cutD xs lo hi)) w := rfl
theorem slD_s {lo hi : Option Int} : slD (.str a) lo hi w Q = (a.length ≤ sizeLine ∧ Q (.str (cutS a lo hi)) w) := rfl
theorem listD_l : listD false [.lst xs] w Q = Q (.lst xs) w := rfl
theorem listD_r : listD false [.rol xs] w Q = Q (.lst xs) w := rfl
theorem listD_t : listD false [.tup xs] w Q = Q (.lst xs) w := rfl
theorem listD_w (h : w p = some (.lst xs)) : listD false [.ref p] w Q = Q (.lst xs) w := by
  unfold listD; simp only [getS, getL, h]; rfl
theorem listD_lO : listD true [.lst xs] w Q = (∀ p, w p = none → Q (.ref p) (put w p (.lst xs))) := rfl
theorem listD_tO : listD true [.tup xs] w Q = (∀ p, w p = none → Q (.ref p) (put w p (.lst xs))) := rfl
theorem tupleD_l : tupleD [.lst xs] w Q = Q (.tup xs) w := rfl
theorem tupleD_t : tupleD [.tup xs] w Q = Q (.tup xs) w := rfl
theorem tupleD_w (h : w p = some (.lst xs)) : tupleD [.ref p] w Q = Q (.tup xs) w := by
  unfold tupleD; simp only [getL, h]
theorem sumD_l {ns : List Int} : sumD [.lst (ns.map D.int)] w Q = Q (.int ns.sum) w := by
  unfold sumD nsD; simp only [getL, Option.bind_some, intsD_map]
theorem allD_l {bs : List Bool} : allD [.lst (bs.map D.bl)] w Q = Q (.bl (bs.all id)) w := by
  unfold allD bsD; simp only [getL, Option.bind_some, blsD_map]
theorem maxD_ii : maxD [.int i, .int j] w Q = Q (.int (if j > i then j else i)) w := rfl
theorem minD_ii : minD [.int i, .int j] w Q = Q (.int (if j < i then j else i)) w := rfl
theorem absD_i : absD [.int i] w Q = Q (.int (if i < 0 then -i else i)) w := rfl
theorem atL_w {k : Addr → List D → Prop} (h : w p = some (.lst xs)) : atL w (.ref p) k = k p xs := by
  unfold atL; simp only [h]
theorem atSeq_l {R : List D → (Wd → Prop) → Prop} : atSeq w (.lst xs) R = R xs (fun _ => True) := rfl
theorem atSeq_r {R : List D → (Wd → Prop) → Prop} : atSeq w (.rol xs) R = R xs (fun _ => True) := rfl
theorem atSeq_w {R : List D → (Wd → Prop) → Prop} (h : w p = some (.lst xs)) : atSeq w (.ref p) R = R xs (fun w2 => w2 p = some (.lst xs)) := by
  unfold atSeq; simp only [h]
theorem dTy_w (h : w p = some (.lst xs)) : dTyOk "list" w (.ref p) := by
  unfold dTyOk; simp only [h]
theorem dTy_l : dTyOk "list" w (.lst xs) := rfl
theorem dTy_s : dTyOk "str" w (.str a) := rfl
end
theorem dFrz_w {i : Nat} {t : DS} {E : DEnds} {S : DSt} {w : Wd} {p : Addr} {n : Nd} {d : D} (hs : S[i]? = some (some (.ref p))) (hw : w p = some n) (hf : frzD n = some d) : dFrz i t E S w = t E (S.set i (some d)) (rid w p) := by
  unfold dFrz; rw [hs]; simp only [hw, Option.bind_some, hf]
theorem app_w {w : Wd} {p : Addr} {xs : List D} {d : D} {Q : DKt} (h : w p = some (.lst xs)) : appD (.ref p) [d] w Q = (xs.length < sizeLine ∧ Q .non (put w p (.lst (xs ++ [d])))) := by
  unfold appD; simp only [atL_w h]
theorem ext_w {w : Wd} {p : Addr} {xs ys : List D} {d : D} {Q : DKt} (h : w p = some (.lst xs)) (hd : getM w d = some ys) : extD (.ref p) [d] w Q = (xs.length + ys.length ≤ sizeLine ∧ Q .non (put w p (.lst (xs ++ ys)))) := by
  unfold extD; simp only [atL_w h, hd]
theorem pop_w {w : Wd} {p : Addr} {xs : List D} {d : D} {Q : DKt} (h : w p = some (.lst (xs ++ [d]))) : popD (.ref p) [] w Q = Q d (put w p (.lst xs)) := by
  unfold popD
  have e : (xs ++ [d])[(xs ++ [d]).length - 1]? = some d := by simp
  simp only [atL_w h, e, List.dropLast_concat]
theorem clr_w {w : Wd} {p : Addr} {xs : List D} {Q : DKt} (h : w p = some (.lst xs)) : clrD (.ref p) [] w Q = Q .non (put w p (.lst [])) := by
  unfold clrD; simp only [atL_w h]
theorem dTy_put {w : Wd} {p : Addr} {xs : List D} : dTyOk "list" (put w p (.lst xs)) (.ref p) = True := by
  unfold dTyOk; simp only [put_same]
theorem app_put {w : Wd} {p : Addr} {xs : List D} {d : D} {Q : DKt} : appD (.ref p) [d] (put w p (.lst xs)) Q = (xs.length < sizeLine ∧ Q .non (put w p (.lst (xs ++ [d])))) := by
  rw [app_w put_same, put_put]
theorem put_none {w : Wd} {a b : Addr} {n : Nd} (h : put w a n b = none) : b ≠ a ∧ w b = none := by
  by_cases e : b = a
  · subst e; rw [put_same] at h; cases h
  · rw [put_ne e] at h; exact ⟨e, h⟩
theorem put_comm {w : Wd} {a b : Addr} {n m : Nd} (h : a ≠ b) : put (put w a n) b m = put (put w b m) a n := by
  funext c; unfold put
  by_cases e1 : c = b
  · have e2 : ¬ c = a := fun z => h (z.symm.trans e1)
    rw [if_pos e1, if_neg e2, if_pos e1]
  · rw [if_neg e1, if_neg e1]
theorem put_21 {w : Wd} {a b : Addr} {n n' m : Nd} (h : a ≠ b) : put (put (put w a n) b m) a n' = put (put w a n') b m := by
  rw [put_comm h, put_put, ← put_comm h]
theorem put_31 {w : Wd} {a b c : Addr} {n n' m l : Nd} (h : a ≠ b) (h2 : a ≠ c) : put (put (put (put w a n) b m) c l) a n' = put (put (put w a n') b m) c l := by
  rw [put_comm (a := c) (b := a) (Ne.symm h2), put_21 h]
theorem rid_ne {w : Wd} {a b : Addr} {n : Nd} (h : a ≠ b) : rid (put w a n) b = put (rid w b) a n := by
  funext c; unfold put rid
  by_cases e1 : c = b
  · have e2 : ¬ c = a := fun z => h (z.symm.trans e1)
    rw [if_pos e1, if_neg e2, if_pos e1]
  · rw [if_neg e1, if_neg e1]
theorem rid_none {w : Wd} {a : Addr} (h : w a = none) : rid w a = w := by
  funext c; unfold rid; split
  · next e => rw [e, h]
  · rfl
theorem frzD_lst {xs : List D} : frzD (.lst xs) = some (.lst xs) := rfl
theorem CMul.l {i j : Int} (h1 : -(2 ^ 64) < i) (h2 : i < 2 ^ 64) : CMul i j := .inl ⟨h1, h2⟩
theorem CMul.r {i j : Int} (h1 : -(2 ^ 64) < j) (h2 : j < 2 ^ 64) : CMul i j := .inr ⟨h1, h2⟩
theorem small {n : Nat} (h : n ≤ 100000) : n ≤ sizeLine := by rw [sizeLine_eq]; omega
theorem smallL {n : Nat} (h : n ≤ 100000) : n < sizeLine := by rw [sizeLine_eq]; omega
/-! ### items -/
theorem atI_of {α : Type} {xs : List α} {i : Int} {v : α} (h0 : 0 ≤ i) (h : xs[i.toNat]? = some v) : atI xs i = some v := by
  have := atI_nat h
  rwa [Int.toNat_of_nonneg h0] at this
theorem atI_ints {ns : List Int} {i : Int} (h0 : 0 ≤ i) (h1 : i < ns.length) : atI (ns.map D.int) i = some (.int (ns.getD i.toNat 0)) := by
  refine atI_of h0 ?_
  have hl : i.toNat < ns.length := by omega
  rw [List.getElem?_map, List.getElem?_eq_getElem hl, List.getD_eq_getElem?_getD, List.getElem?_eq_getElem hl]
  rfl
theorem all_ints (ns : List Int) : (ns.map D.int).all flatD = true := by
  rw [List.all_map]; exact List.all_eq_true.mpr fun _ _ => rfl
theorem inL_ints {n : Int} (ns : List Int) : inL (.int n) (ns.map D.int) = decide (n ∈ ns) := by
  unfold inL
  rw [List.any_map]
  induction ns with
  | nil => rfl
  | cons m r ih =>
    rw [List.any_cons, ih]
    show ((m == n) || _) = _
    by_cases e : m = n
    · subst e; simp
    · have e2 : ¬ n = m := fun z => e z.symm
      simp [e, e2]
theorem toPyL_ints : ∀ ns : List Int, toPyL (ns.map D.int) = some (ns.map PyData.int)
  | [] => by simp [toPyL]
  | n :: r => by
    rw [List.map_cons, List.map_cons]
    unfold toPyL
    rw [toPyL_ints r]
    simp [toPy]
theorem pos_ints_len (ns : List Int) : (ns.map D.int).length = ns.length := List.length_map _
/-! ### loops -/
section
variable {ta : DA} {te : DE} {g : DG} {tb : DS} {E : DEnds} {S : DSt} {w : Wd} (Iv : Nat → DSt → Wd → Prop)
theorem dFor_r1 {n : Int} (ha : ∀ R : List D → Wd → Prop, R [.int n] w → ta S w R) (h1 : -(2 ^ 62) ≤ n) (h2 : n < 2 ^ 62) (h0 : Iv 0 S w)
    (hs : ∀ (i : Nat) S2 w2, (i : Int) < n → Iv i S2 w2 → g (.int i) S2 w2 fun S3 w3 => tb { E with nx := Iv (i + 1), ct := Iv (i + 1), bk := E.nx } S3 w3) (hd : ∀ S2 w2, Iv n.toNat S2 w2 → E.nx S2 w2) : dFor (diR1 ta) g tb E S w := by
  refine ha _ ⟨h1, h2, Iv, h0, fun i S2 w2 hi h => ⟨trivial, ?_⟩, fun S2 w2 h => ⟨trivial, hd S2 w2 h⟩⟩
  have hi' : i < n.toNat := hi
  have e : (itR 0 n.toNat).item i = .int i := by show D.int (0 + (i : Int)) = _; rw [Int.zero_add]
  rw [e]
  exact hs i S2 w2 (by omega) h
theorem dFor_r2 {a b : Int} (ha : ∀ R : List D → Wd → Prop, R [.int a, .int b] w → ta S w R) (h1 : -(2 ^ 62) ≤ a ∧ a < 2 ^ 62 ∧ -(2 ^ 62) ≤ b ∧ b < 2 ^ 62) (h0 : Iv 0 S w)
    (hs : ∀ (i : Nat) S2 w2, a + (i : Int) < b → Iv i S2 w2 → g (.int (a + i)) S2 w2 fun S3 w3 => tb { E with nx := Iv (i + 1), ct := Iv (i + 1), bk := E.nx } S3 w3) (hd : ∀ S2 w2, Iv (b - a).toNat S2 w2 → E.nx S2 w2) : dFor (diR2 ta) g tb E S w := by
  refine ha _ ⟨h1, Iv, h0, fun i S2 w2 hi h => ⟨trivial, ?_⟩, fun S2 w2 h => ⟨trivial, hd S2 w2 h⟩⟩
  have hi' : i < (b - a).toNat := hi
  exact hs i S2 w2 (by omega) h
/-- over plain data -/
theorem dFor_l {xs : List D} (ha : ∀ R : D → Wd → Prop, R (.lst xs) w → te S w R) (h0 : Iv 0 S w)
    (hs : ∀ (i : Nat) d S2 w2, xs[i]? = some d → Iv i S2 w2 → g d S2 w2 fun S3 w3 => tb { E with nx := Iv (i + 1), ct := Iv (i + 1), bk := E.nx } S3 w3) (hd : ∀ S2 w2, Iv xs.length S2 w2 → E.nx S2 w2) : dFor (diL te) g tb E S w := by
  refine ha _ ⟨Iv, h0, fun i S2 w2 hi h => ⟨trivial, ?_⟩, fun S2 w2 h => ⟨trivial, hd S2 w2 h⟩⟩
  exact hs i _ S2 w2 (getD_at hi) h
theorem dFor_rol {xs : List D} (ha : ∀ R : D → Wd → Prop, R (.rol xs) w → te S w R) (h0 : Iv 0 S w)
    (hs : ∀ (i : Nat) d S2 w2, xs[i]? = some d → Iv i S2 w2 → g d S2 w2 fun S3 w3 => tb { E with nx := Iv (i + 1), ct := Iv (i + 1), bk := E.nx } S3 w3) (hd : ∀ S2 w2, Iv xs.length S2 w2 → E.nx S2 w2) : dFor (diL te) g tb E S w := by
  refine ha _ ⟨Iv, h0, fun i S2 w2 hi h => ⟨trivial, ?_⟩, fun S2 w2 h => ⟨trivial, hd S2 w2 h⟩⟩
  exact hs i _ S2 w2 (getD_at hi) h
/-- over a node -/
theorem dFor_w {p : Addr} {xs : List D} (ha : ∀ R : D → Wd → Prop, R (.ref p) w → te S w R) (hw : w p = some (.lst xs)) (h0 : Iv 0 S w)
    (hs : ∀ (i : Nat) d S2 w2, xs[i]? = some d → Iv i S2 w2 → w2 p = some (.lst xs) ∧ g d S2 w2 fun S3 w3 => tb { E with nx := Iv (i + 1), ct := Iv (i + 1), bk := E.nx } S3 w3) (hd : ∀ S2 w2, Iv xs.length S2 w2 → w2 p = some (.lst xs) ∧ E.nx S2 w2) : dFor (diL te) g tb E S w := by
  refine ha _ ?_
  rw [atSeq_w hw]
  exact ⟨Iv, h0, fun i S2 w2 hi h => hs i _ S2 w2 (getD_at hi) h, fun S2 w2 h => hd S2 w2 h⟩
theorem dFor_t {xs : List D} (ha : ∀ R : D → Wd → Prop, R (.tup xs) w → te S w R) (h0 : Iv 0 S w)
    (hs : ∀ (i : Nat) d S2 w2, xs[i]? = some d → Iv i S2 w2 → g d S2 w2 fun S3 w3 => tb { E with nx := Iv (i + 1), ct := Iv (i + 1), bk := E.nx } S3 w3) (hd : ∀ S2 w2, Iv xs.length S2 w2 → E.nx S2 w2) : dFor (diT te) g tb E S w := by
  refine ha _ ⟨Iv, h0, fun i S2 w2 hi h => ⟨trivial, ?_⟩, fun S2 w2 h => ⟨trivial, hd S2 w2 h⟩⟩
  exact hs i _ S2 w2 (getD_at hi) h
theorem dFor_e {xs : List D} (ha : ∀ R : List D → Wd → Prop, R [.lst xs] w → ta S w R) (h0 : Iv 0 S w)
    (hs : ∀ (i : Nat) d S2 w2, xs[i]? = some d → Iv i S2 w2 → g (.tup [.int i, d]) S2 w2 fun S3 w3 => tb { E with nx := Iv (i + 1), ct := Iv (i + 1), bk := E.nx } S3 w3) (hd : ∀ S2 w2, Iv xs.length S2 w2 → E.nx S2 w2) : dFor (diE ta) g tb E S w := by
  refine ha _ ⟨Iv, h0, fun i S2 w2 hi h => ⟨trivial, ?_⟩, fun S2 w2 h => ⟨trivial, hd S2 w2 h⟩⟩
  exact hs i _ S2 w2 (getD_at hi) h
end
theorem dWhile_by {c : DT} {tb : DS} {E : DEnds} {S : DSt} {w : Wd} (Iv : Nat → DSt → Wd → Prop) (m : Nat) (h0 : Iv m S w)
    (hs : ∀ m S w, Iv m S w → c S w fun b w1 => if b = true then tb { E with nx := fun S2 w2 => ∃ m', m' < m ∧ Iv m' S2 w2, ct := fun S2 w2 => ∃ m', m' < m ∧ Iv m' S2 w2, bk := E.nx } S w1 else E.nx S w1) : dWhile c tb E S w := ⟨Iv, ⟨m, h0⟩, hs⟩
/-! ### comprehensions -/
section
variable {ta : DA} {te tl : DE} {tt : DT} {S : DSt} {w : Wd} {Q : DKt} {T : Tgt}
theorem lc_map {j : DIt} {f : Nat → D} (hn : j.n ≤ sizeLine) (hok : j.ok w) (h : ∀ i, i < j.n → T.dg (j.item i) (wipeD S T.vs) fun S2 => te S2 w fun d w3 => w3 = w ∧ d = f i) : LcBody T dYes te S w j fun i => (List.range i).map f := by
  refine ⟨rfl, hn, hok, fun i hi => ?_⟩
  have q := h i hi
  have e : (List.range (i + 1)).map f = (List.range i).map f ++ [f i] := by rw [List.range_succ, List.map_append]; rfl
  have k : ∀ S2, (te S2 w fun d w3 => w3 = w ∧ d = f i) → dYes S2 w fun b w2 => w2 = w ∧ if b = true then te S2 w fun d w3 => w3 = w ∧ (List.range (i + 1)).map f = (List.range i).map f ++ [d] else (List.range (i + 1)).map f = (List.range i).map f := by
    intro S2 z
    refine ⟨rfl, ?_⟩
    show te S2 w _
    have e2 : (fun d w3 => w3 = w ∧ (List.range (i + 1)).map f = (List.range i).map f ++ [d]) = fun (d : D) (w3 : Wd) => w3 = w ∧ d = f i := by
      funext d w3
      rw [e]
      apply propext
      constructor
      · rintro ⟨h1, h2⟩
        have := List.append_cancel_left h2
        exact ⟨h1, by simpa using this.symm⟩
      · rintro ⟨h1, h2⟩
        exact ⟨h1, by rw [h2]⟩
    rw [e2]
    exact z
  cases T with
  | one j2 => exact k _ q
  | many js =>
    unfold Tgt.dg at q ⊢
    dsimp only at q ⊢
    split at q
    · rename_i ds hd
      exact ⟨q.1, k _ q.2⟩
    · exact q.elim
theorem dLc_r1 {n : Int} {f : Nat → D} (ha : ∀ R : List D → Wd → Prop, R [.int n] w → ta S w R) (h1 : 0 ≤ n) (h2 : n ≤ 100000) {j : Nat} (he : ∀ i : Nat, (i : Int) < n → te ((wipeD S [j]).set j (some (.int i))) w fun d w3 => w3 = w ∧ d = f i)
    (hq : Q (.lst ((List.range n.toNat).map f)) w) : dLc (diR1 ta) (.one j) dYes te S w Q := by
  refine ha _ ⟨by omega, by omega, fun i => (List.range i).map f, lc_map (small (show n.toNat ≤ 100000 by omega)) trivial fun i hi => ?_, hq⟩
  have hi' : i < n.toNat := hi
  have e : (itR 0 n.toNat).item i = .int i := by show D.int (0 + (i : Int)) = _; rw [Int.zero_add]
  rw [e]
  exact he i (by omega)
theorem dLc_l {xs : List D} {f : Nat → D} (ha : ∀ R : D → Wd → Prop, R (.lst xs) w → tl S w R) (h2 : xs.length ≤ 100000) {j : Nat} (he : ∀ (i : Nat) d, xs[i]? = some d → te ((wipeD S [j]).set j (some d)) w fun d w3 => w3 = w ∧ d = f i)
    (hq : Q (.lst ((List.range xs.length).map f)) w) : dLc (diL tl) (.one j) dYes te S w Q := by
  refine ha _ ⟨fun i => (List.range i).map f, lc_map (small h2) trivial fun i hi => ?_, hq⟩
  exact he i _ (getD_at hi)
end
end TD

set_option maxHeartbeats 2000000
namespace TD
open PySem PySem.Spec PyProof.Rows L2
/-! ### what a plain expression, a plain test comes to -/
def EvE (te : DE) (S : DSt) (w : Wd) (d : D) : Prop := ∀ Q : DKt, Q d w → te S w Q
def EvT (t : DT) (S : DSt) (w : Wd) (b : Bool) : Prop := ∀ Q : Bool → Wd → Prop, Q b w → t S w Q
def EvA (t : DA) (S : DSt) (w : Wd) (ds : List D) : Prop := ∀ Q : List D → Wd → Prop, Q ds w → t S w Q
structure Gd (a : Bool) (P : Prop) : Prop where
  run : a = true → P
structure Gn (a : Bool) (P : Prop) : Prop where
  run : a = false → P
section
variable {S : DSt} {w : Wd} {ta tb te : DE} {t u : DT} {tr : DA} {x y z d : D} {a b c : Bool} {D' : DEnds} {s1 s2 : DS} {ds : List D} {Q : DKt}
theorem eve_c : EvE (dC d) S w d := fun _ q => q
theorem eve_var {i : Nat} (h : S[i]? = some (some d)) : EvE (dVar i) S w d := fun Q q => by unfold dVar; rw [h]; exact q
theorem eve_op {dr : DR2} (ha : EvE ta S w x) (hb : EvE tb S w y) (hr : ∀ Q : DKt, Q z w → dr x y w Q) : EvE (dOp dr ta tb) S w z := fun Q q => ha _ (hb _ (hr Q q))
theorem eve_un {dr : DR1} (ha : EvE ta S w x) (hr : ∀ Q : DKt, Q z w → dr x w Q) : EvE (dUn dr ta) S w z := fun Q q => ha _ (hr Q q)
theorem eve_cb {dr : DRl} (ha : EvA tr S w ds) (hr : ∀ Q : DKt, Q z w → dr ds w Q) : EvE (dCB dr tr) S w z := fun Q q => ha _ (hr Q q)
theorem eva_nil : EvA dNil S w [] := fun _ q => q
theorem eva_cons (ha : EvE ta S w x) (hr : EvA tr S w ds) : EvA (dCons ta tr) S w (x :: ds) := fun Q q => ha _ (hr _ q)
theorem eve_tup (h : EvA tr S w ds) (hl : ds.length ≤ sizeLine) : EvE (dTup tr) S w (.tup ds) := fun Q q => h _ ⟨hl, q⟩
theorem eve_lst (h : EvA tr S w ds) (hl : ds.length ≤ sizeLine) : EvE (dLst tr) S w (.lst ds) := fun Q q => h _ ⟨hl, q⟩
theorem evt_B (h : EvE te S w (.bl b)) : EvT (dB te) S w b := fun Q q => h _ q
theorem evt_and (h1 : EvT t S w a) (h2 : Gd a (EvT u S w b)) : EvT (dAnd t u) S w (a && b) := fun Q q => h1 _ (by
  cases a with
  | true => exact h2.run rfl Q q
  | false => exact q)
theorem evt_or (h1 : EvT t S w a) (h2 : Gn a (EvT u S w b)) : EvT (dOr t u) S w (a || b) := fun Q q => h1 _ (by
  cases a with
  | true => exact q
  | false => exact h2.run rfl Q q)
theorem evt_not (h : EvT t S w a) : EvT (dNot t) S w (!a) := fun Q q => h _ q
theorem eve_and (h1 : EvE ta S w (.bl a)) (h2 : Gd a (EvE tb S w (.bl b))) : EvE (dAndV ta tb) S w (.bl (a && b)) := fun Q q => h1 _ (by
  cases a with
  | true => exact h2.run rfl Q q
  | false => exact q)
theorem eve_or (h1 : EvE ta S w (.bl a)) (h2 : Gn a (EvE tb S w (.bl b))) : EvE (dOrV ta tb) S w (.bl (a || b)) := fun Q q => h1 _ (by
  cases a with
  | true => exact q
  | false => exact h2.run rfl Q q)
theorem eve_not (h1 : EvE ta S w (.bl a)) : EvE (dNotV ta) S w (.bl (!a)) := fun Q q => h1 _ q
theorem eve_if (h : EvT t S w b) (h1 : Gd b (EvE ta S w x)) (h2 : Gn b (EvE tb S w y)) : EvE (dIfE t ta tb) S w (if b = true then x else y) := fun Q q => h _ (by
  cases b with
  | true => exact h1.run rfl Q q
  | false => exact h2.run rfl Q q)
theorem eve_chain {dr dr' : DR2} {tc : DE} (ha : EvE ta S w x) (hb : EvE tb S w y) (hr : ∀ Q : DKt, Q (.bl a) w → dr x y w Q) (hc : Gd a (EvE tc S w z)) (hr' : Gd a (∀ Q : DKt, Q (.bl b) w → dr' y z w Q)) : EvE (dChain dr dr' ta tb tc) S w (.bl (a && b)) := fun Q q => ha _ (hb _ (hr _ (by
  cases a with
  | true => exact hc.run rfl _ (hr'.run rfl Q q)
  | false => exact q)))
theorem dIf_ev (h : EvT t S w b) (h1 : b = true → s1 D' S w) (h2 : b = false → s2 D' S w) : dIf t s1 s2 D' S w := h _ (by
  cases b with
  | true => exact h1 rfl
  | false => exact h2 rfl)
theorem dSeq_if (h : EvT t S w b) (h1 : b = true → s1 { D' with nx := u' D' } S w) (h2 : b = false → s2 { D' with nx := u' D' } S w) : dSeq (dIf t s1 s2) u' D' S w := dIf_ev (D' := { D' with nx := u' D' }) h h1 h2
theorem dSeq_ret (h : EvT t S w b) (h1 : b = true → s1 { D' with nx := u' D' } S w) (h2 : b = false → u' D' S w) : dSeq (dIf t s1 dNext) u' D' S w := dIf_ev (D' := { D' with nx := u' D' }) h h1 h2
theorem dSeq_asg {i : Nat} (h : EvE te S w d) (k : u' D' (S.set i (some d)) w) : dSeq (dAsg te i) u' D' S w := h _ k
theorem dSeq_app {i : Nat} {p : Addr} {xs : List D} (hs : S[i]? = some (some (.ref p))) (hw : w p = some (.lst xs)) (h : EvE te S w d) (hl : xs.length < sizeLine) (k : u' D' S (put w p (.lst (xs ++ [d])))) : dSeq (dDrop (dBM "list" appD (dVar i) (dCons te dNil))) u' D' S w := by
  simp only [dSeq, dDrop, dBM, dVar, hs, dCons, dNil]
  refine ⟨dTy_w hw, h _ ?_⟩
  rw [app_w hw]
  exact ⟨hl, k⟩
theorem dApp_ev {i : Nat} {p : Addr} {xs : List D} (hs : S[i]? = some (some (.ref p))) (hw : w p = some (.lst xs)) (h : EvE te S w d) (hl : xs.length < sizeLine) (k : D'.nx S (put w p (.lst (xs ++ [d])))) : dDrop (dBM "list" appD (dVar i) (dCons te dNil)) D' S w := by
  simp only [dSeq, dDrop, dBM, dVar, hs, dCons, dNil]
  refine ⟨dTy_w hw, h _ ?_⟩
  rw [app_w hw]
  exact ⟨hl, k⟩
theorem dAsg_ev {i : Nat} (h : EvE te S w d) (k : D'.nx (S.set i (some d)) w) : dAsg te i D' S w := h _ k
theorem dCut_if {t1 t2 : DS} (M : DSt → Wd → Prop) (h : EvT t S w b) (h1 : b = true → t1 { D' with nx := M } S w) (h2 : b = false → t2 { D' with nx := M } S w) (k : ∀ S2 w2, M S2 w2 → u' D' S2 w2) : dCut (dIf t t1 t2) u' D' S w := ⟨M, dIf_ev (D' := { D' with nx := M }) h h1 h2, k⟩
theorem dRet_ev (h : EvE te S w d) (k : D'.rt d w) : dRet te D' S w := h _ k
theorem ev_eq (h : EvE te S w x) (e : x = y) : EvE te S w y := e ▸ h
theorem evt_eq (h : EvT t S w a) (e : a = b) : EvT t S w b := e ▸ h
end
end TD

set_option maxHeartbeats 2000000
namespace TD
open PySem PySem.Spec PyProof.Rows L2
/-! ### the end: a law's def kept in the lifted words -/
theorem ints_rep {K : PySem.W.Frag} {P : Hp} : ∀ ns : List Int, RepL K P (ns.map D.int) (ns.map V.int)
  | [] => .nil
  | n :: r => .cons (.int n) (ints_rep r)
theorem walk_td {l : PySem.W.OpenLaw} {n k : Nat} {prog : Program} {lo : List Str} {XA : (Str → Option Value) → Heap → Prop} {YA : World → Heap → Prop} {dr : DefRec} {x : Str} {sp : DSp}
    (hm : l.most = some n) (hz : n ≤ sizeLine) (hd : dr.params.defaults = []) (hr : Room k callerA)
    (hs : ∀ ns : List Int, ns.length ≤ n → sp [.rol (ns.map D.int)] (fun _ => none) (fun d _ => d = .bl true) fun _ _ _ => False)
    (F : ∀ (w : World) (mg : Str → Option Value) (f : Addr) (h : Heap), YA w h → h.Ns mainGlobals mg → mg dr.name = some (.ref f) →
      ∃ (K : PySem.W.Frag) (fd : FuncData), K.In h ∧ (∀ (s : Shared) (u : Value), BindsTo s fd ⟨[u], []⟩ [(x, u)]) ∧ ∀ base : Heap, K.In base → base.Ns mainGlobals mg → FnOk l.prog w K mg base (L2N.CX l.prog w) k f fd [x] (lift K sp)) :
    PySem.W.WalkO prog lo XA YA l.row.toRowW dr [] (fun f vs => PySem.call f vs) := by
  refine Att.attach_call hm hd fun w s0 s1 mg mb f o pm cd doc a vs ns G Y ho hdd hcd hmg hobj hints hlen hg => ?_
  obtain ⟨K, fd, KX, hb, hF⟩ := F w mg f _ Y G.T.g hmg
  refine law_call KX G.T.g G.T.b G.T.builtins G.T.nolimit hg hobj hints (Nat.le_trans hlen hz) hr hF hb (fun H hO hS => ?_) fun H e s' z => ?_
  · refine ⟨H, fun _ => none, [.rol (ns.map D.int)], _, _, ⟨fun _ _ q => q, fun _ _ z => (nomatch z)⟩, .cons (.rol hS (ints_rep ns)) .nil, hs ns hlen, ?_, fun _ _ _ z => z.elim⟩
    rintro d w1 rfl v H1 P1 g r
    cases r
    rfl
  · obtain ⟨_, _, _, _, _, _, _, _, _, _, _, _, z⟩ := z
    exact z
end TD

set_option maxHeartbeats 2000000
namespace TD
open PySem PySem.Spec PyProof.Rows L2
abbrev iL (ns : List Int) : D := .lst (ns.map D.int)
theorem eqD_same {neg : Bool} {x y : D} {w : Wd} {Q : DKt} {d : PyData} (hs : eqS x y = none) (hx : pyOf w x = some d) (hy : pyOf w y = some d) (hsh : SeqAt.shaped d = true) : eqD neg x y w Q = Q (.bl (neg != true)) w := by
  rw [eqD_deep hs hx hy]
  have e : PyData.eqv d d = true := SeqAt.eqv_refl d (SeqAt.canLay_of_shaped hsh)
  rw [e]
  simp only [hsh, true_and]
theorem canLay_lists : ∀ ls : List (List Int), PyData.canLayAll0 (ls.map fun ns => .list (ns.map PyData.int)) = true
  | [] => rfl
  | l :: r => by simp [PyData.canLayAll0, PyData.canLay0, PySem.W.ke_canLayAll0, canLay_lists r]
theorem depth_lists : ∀ ls : List (List Int), PyData.depthAll (ls.map fun ns => .list (ns.map PyData.int)) ≤ 1
  | [] => by simp [PyData.depthAll]
  | l :: r => by
    have := depth_lists r
    simp [PyData.depthAll, PyData.depth, PySem.W.ke_depthAll]; omega
theorem shaped_lists (ls : List (List Int)) : SeqAt.shaped (.list (ls.map fun ns => .list (ns.map PyData.int))) = true := by
  have := depth_lists ls
  unfold SeqAt.shaped PyData.canLay0 PyData.depth
  rw [canLay_lists, Bool.true_and, decide_eq_true_eq]
  omega
theorem toPyL_lists : ∀ ls : List (List Int), toPyL (ls.map fun ns => iL ns) = some (ls.map fun ns => .list (ns.map PyData.int))
  | [] => by simp [toPyL]
  | l :: r => by
    rw [List.map_cons, List.map_cons]
    unfold toPyL
    rw [toPyL_lists r]
    simp [toPy, toPyL_ints]
theorem pyOf_lists {w : Wd} (ls : List (List Int)) : pyOf w (.lst (ls.map fun ns => iL ns)) = some (.list (ls.map fun ns => .list (ns.map PyData.int))) := by
  show toPy (.lst _) = _
  rw [toPy, toPyL_lists]; rfl

/-! ### comprehensions with a test -/
section
variable {ta : DA} {te tl : DE} {tt : DT} {S : DSt} {w : Wd} {Q : DKt} {T : Tgt}
theorem dg_imp {d : D} {S : DSt} {k k' : DSt → Prop} (h : T.dg d S k) (hk : ∀ S2, k S2 → k' S2) : T.dg d S k' := by
  cases T with
  | one j => exact hk _ h
  | many js =>
    unfold Tgt.dg at h ⊢
    dsimp only at h ⊢
    split at h
    · exact ⟨h.1, hk _ h.2⟩
    · exact h.elim
theorem lc_fm {j : DIt} {c : Nat → Bool} {f : Nat → D} (hn : j.n ≤ sizeLine) (hok : j.ok w) (h : ∀ i, i < j.n → T.dg (j.item i) (wipeD S T.vs) fun S2 => EvT tt S2 w (c i) ∧ (c i = true → EvE te S2 w (f i))) : LcBody T tt te S w j fun i => ((List.range i).filter c).map f := by
  refine ⟨rfl, hn, hok, fun i hi => dg_imp (h i hi) ?_⟩
  rintro S2 ⟨h1, h2⟩
  refine h1 _ ⟨rfl, ?_⟩
  have e : (List.range (i + 1)).filter c = (List.range i).filter c ++ (if c i = true then [i] else []) := by
    rw [List.range_succ, List.filter_append]
    congr 1
    cases hc : c i <;> simp [hc]
  dsimp only
  rw [e]
  cases hc : c i with
  | true => exact h2 hc _ ⟨rfl, by simp⟩
  | false => simp
theorem dLc_r1f {n : Int} {c : Nat → Bool} {f : Nat → D} (ha : ∀ R : List D → Wd → Prop, R [.int n] w → ta S w R) (h1 : 0 ≤ n) (h2 : n ≤ 100000) {j : Nat} (he : ∀ i : Nat, (i : Int) < n → EvT tt ((wipeD S [j]).set j (some (.int i))) w (c i) ∧ (c i = true → EvE te ((wipeD S [j]).set j (some (.int i))) w (f i)))
    (hq : Q (.lst (((List.range n.toNat).filter c).map f)) w) : dLc (diR1 ta) (.one j) tt te S w Q := by
  refine ha _ ⟨by omega, by omega, _, lc_fm (c := c) (f := f) (small (show n.toNat ≤ 100000 by omega)) trivial fun i hi => ?_, hq⟩
  have hi' : i < n.toNat := hi
  have e : (itR 0 n.toNat).item i = .int i := by show D.int (0 + (i : Int)) = _; rw [Int.zero_add]
  rw [e]
  exact he i (by omega)
theorem dLcO_r1f {n : Int} {c : Nat → Bool} {f : Nat → D} (ha : ∀ R : List D → Wd → Prop, R [.int n] w → ta S w R) (h1 : 0 ≤ n) (h2 : n ≤ 100000) {j : Nat} (he : ∀ i : Nat, (i : Int) < n → EvT tt ((wipeD S [j]).set j (some (.int i))) w (c i) ∧ (c i = true → EvE te ((wipeD S [j]).set j (some (.int i))) w (f i)))
    (hq : ∀ p, w p = none → Q (.ref p) (put w p (.lst (((List.range n.toNat).filter c).map f)))) : dLcO (diR1 ta) (.one j) tt te S w Q := by
  refine ha _ ⟨by omega, by omega, _, lc_fm (c := c) (f := f) (small (show n.toNat ≤ 100000 by omega)) trivial fun i hi => ?_, hq⟩
  have hi' : i < n.toNat := hi
  have e : (itR 0 n.toNat).item i = .int i := by show D.int (0 + (i : Int)) = _; rw [Int.zero_add]
  rw [e]
  exact he i (by omega)
theorem lc_fl {xs : List D} {j : DIt} {c : D → Bool} {f : D → D} (hj : j.n = xs.length) (hi : ∀ i d, xs[i]? = some d → j.item i = d) (hn : xs.length ≤ 100000) (hok : j.ok w) (h : ∀ d ∈ xs, T.dg d (wipeD S T.vs) fun S2 => EvT tt S2 w (c d) ∧ (c d = true → EvE te S2 w (f d))) : LcBody T tt te S w j fun i => ((xs.take i).filter c).map f := by
  refine ⟨rfl, by rw [hj]; exact small hn, hok, fun i hl => ?_⟩
  have hl' : i < xs.length := by omega
  have hd := List.getElem?_eq_getElem hl'
  rw [hi i _ hd]
  refine dg_imp (h _ (List.getElem_mem hl')) ?_
  rintro S2 ⟨h1, h2⟩
  refine h1 _ ⟨rfl, ?_⟩
  have e : (xs.take (i + 1)).filter c = (xs.take i).filter c ++ (if c xs[i] = true then [xs[i]] else []) := by
    rw [List.take_add_one, List.filter_append, hd]
    congr 1
    cases hc : c xs[i] <;> simp [hc]
  dsimp only
  rw [e]
  cases hc : c xs[i] with
  | true => exact h2 hc _ ⟨rfl, by simp⟩
  | false => simp
theorem dLc_lf {xs : List D} {c : D → Bool} {f : D → D} (ha : ∀ R : D → Wd → Prop, R (.lst xs) w → tl S w R) (h2 : xs.length ≤ 100000) (he : ∀ d ∈ xs, T.dg d (wipeD S T.vs) fun S2 => EvT tt S2 w (c d) ∧ (c d = true → EvE te S2 w (f d)))
    (hq : Q (.lst ((xs.filter c).map f)) w) : dLc (diL tl) T tt te S w Q := by
  refine ha _ ⟨_, lc_fl (xs := xs) rfl (fun i d h => by show xs.getD i _ = d; rw [List.getD_eq_getElem?_getD, h]; rfl) h2 trivial he, ?_⟩
  show Q (.lst (((xs.take xs.length).filter c).map f)) w
  rw [List.take_length]; exact hq
theorem dLcO_lf {xs : List D} {c : D → Bool} {f : D → D} (ha : ∀ R : D → Wd → Prop, R (.lst xs) w → tl S w R) (h2 : xs.length ≤ 100000) (he : ∀ d ∈ xs, T.dg d (wipeD S T.vs) fun S2 => EvT tt S2 w (c d) ∧ (c d = true → EvE te S2 w (f d)))
    (hq : ∀ p, w p = none → Q (.ref p) (put w p (.lst ((xs.filter c).map f)))) : dLcO (diL tl) T tt te S w Q := by
  refine ha _ ⟨_, lc_fl (xs := xs) rfl (fun i d h => by show xs.getD i _ = d; rw [List.getD_eq_getElem?_getD, h]; rfl) h2 trivial he, ?_⟩
  show ∀ p, w p = none → Q (.ref p) (put w p (.lst (((xs.take xs.length).filter c).map f)))
  rw [List.take_length]; exact hq
theorem evt_yes : EvT dYes S w true := fun _ q => q
end
end TD

set_option maxHeartbeats 2000000
namespace TD
open PySem PySem.Spec PyProof.Rows L2
/-! ### more words: o[i] = e, sorted, xs[::-1] -/
section
variable {X : Cx} {W : WX} {W' : DWX} {o i e : Expr} {to ti te : DE} {pos tpos : Pos}
theorem qs_setI (he : QE X W W' e te) (ho : QE X W W' o to) (hi : QE X W W' i ti)
    (ha : ∀ v, assign (.Subscript o i tpos) X.env v = (do
      let ov ← holding [v] (eval o X.env)
      let iv ← holding [v, ov] (eval i X.env)
      standAt tpos; holding [v, ov, iv] (setItem ov iv v); release [v, ov, iv] []) := by intro _; rfl)
    (hs : swapsWithSole [.Subscript o i tpos] e pos.line X.env = pure false := by rfl) (hw : swappedStores [.Subscript o i tpos] e X.env = pure none := by rfl)
    (h1 : (assignEach [.Subscript o i tpos] X.env).map (·.2) = [assign (.Subscript o i tpos) X.env] := by rfl) : QS X W W' (.Assign [.Subscript o i tpos] e pos) (dSet te to ti) :=
  qs_setL he ho hi (ps_asg he (pg_sub ho hi set_list ha) hs hw h1)
end
def sortD : DRl := fun ds w Q => match ds with
  | [x] => match nsD w x with
    | some ns => ∀ ms : List Int, ms.Perm ns → ms.Pairwise (· ≤ ·) → Q (.lst (ms.map D.int)) w
    | none => False
  | _ => False
theorem tr_sort {K : PySem.W.Frag} : TrRl K (rSortedI K) sortD := by
  intro H P w xs ds Q' Q rh r h hq
  unfold sortD at h
  split at h
  · cases r with
    | cons r1 r2 =>
      cases r2
      split at h
      · rename_i ns hn
        obtain ⟨a, rfl, sq⟩ := nsD_at rh r1 hn
        refine ⟨a, ns, rfl, sq, fun ms p h1 h2 hp => ?_⟩
        have g := rh.newP (o := .lst (ms.map V.int)) hp
        exact hq _ w (h ms h1 h2) _ _ _ g (.lst upd_same (ints_rep ms))
      · exact h.elim
  · exact h.elim
theorem sortD_l {ns : List Int} {w : Wd} {Q : DKt} : sortD [.lst (ns.map D.int)] w Q = (∀ ms : List Int, ms.Perm ns → ms.Pairwise (· ≤ ·) → Q (.lst (ms.map D.int)) w) := by
  unfold sortD nsD; simp only [getL, Option.bind_some, intsD_map]
def dRev (te : DE) : DE := fun S w Q => te S w fun x w1 => match x with
  | .lst xs => Q (.lst xs.reverse) w1
  | _ => False
theorem qe_rev {X : Cx} {W : WX} {W' : DWX} {e : Expr} {te : DE} {k : Nat} {p1 p2 p3 pos : Pos} (he : QE X W W' e te) : QE X W W' (.Subscript e (.Slice none none (some (.UnaryOp .USub (.Constant (.int 1) k p1) p2)) p3) pos) (dRev te) := PE.imp (pe_revL he)
  fun σ H Q ⟨P, w, S, Q', rh, sl, h, hq, hx⟩ => ⟨P, w, S, _, rh, sl, h, fun d w1 h1 v H1 P1 g1 r1 => by
    cases r1 with
    | lst q r =>
      rename_i a vs ds
      refine ⟨_, _, rfl, SqL.of (g1.rh.per _ _ q), fun p hp => ?_⟩
      have g := g1.rh.newP (o := .lst vs.reverse) hp
      exact hq _ w1 h1 _ _ _ (g1.trans g) (.lst upd_same (r.mono g.ex).reverse)
    | _ => exact h1.elim, hx⟩
/-! ### short words -/
theorem atL_put {w : Wd} {p : Addr} {xs : List D} {k : Addr → List D → Prop} : atL (put w p (.lst xs)) (.ref p) k = k p xs := atL_w put_same
theorem two_sorted : ∀ {as bs : List Int}, as.Perm bs → as.Pairwise (· ≤ ·) → bs.Pairwise (· ≤ ·) → as = bs
  | [], bs, h, _, _ => by have := h.length_eq; cases bs with | nil => rfl | cons b r => simp at this
  | a :: as, [], h, _, _ => by have := h.length_eq; simp at this
  | a :: as, b :: bs, h, h1, h2 => by
    have e : a = b := by
      have ha : a ∈ b :: bs := h.mem_iff.mp (List.mem_cons_self)
      have hb : b ∈ a :: as := h.mem_iff.mpr (List.mem_cons_self)
      have l1 : b ≤ a := by
        rcases List.mem_cons.mp ha with z | z
        · omega
        · exact (List.pairwise_cons.mp h2).1 a z
      have l2 : a ≤ b := by
        rcases List.mem_cons.mp hb with z | z
        · omega
        · exact (List.pairwise_cons.mp h1).1 b z
      omega
    subst e
    rw [two_sorted (h.cons_inv) (List.pairwise_cons.mp h1).2 (List.pairwise_cons.mp h2).2]
end TD

set_option maxHeartbeats 2000000
namespace TD
open PySem PySem.Spec PyProof.Rows L2
/-- a statement that is not reached -/
def dNever : DS := fun _ _ _ => False
theorem qs_never {X : Cx} {W : WX} {W' : DWX} {s : Stmt} : QS X W W' s dNever := ⟨fun _ _ _ _ _ _ h => by
  obtain ⟨_, _, _, _, _, _, h, _⟩ := h
  exact h.elim⟩
end TD

set_option maxHeartbeats 2000000
namespace TD
open PySem PySem.Spec PyProof.Rows L2
/-! ### exceptions of own classes without fields -/
def cls (K : PySem.W.Frag) (x : Str) : Value := .ref (He.ga K x)
structure XF (K : PySem.W.Frag) (mg : Str → Option Value) (x : Str) : Prop where
  g : mg x = some (.ref (He.ga K x))
  e : (He.Fa.exc x).ok K = true
def dRaise (c : Value) (W' : DWX) : DS := fun _ S w => W' c none S w
section
variable {X : Cx} {W : WX} {W' : DWX}
theorem qs_raise {x m : Str} {j : Nat} {p p2 pos pos2 : Pos} (f : XF X.K X.mg x) (tk : L2N.Takes X W) (hc : X.calm = true := by rfl) (hg : Gl X x := by rfl) (hdb : (x == ("__debug__" : Str)) = false := by decide) :
    QS X W W' (.Raise (some (.Call (.Name x p) [.Constant (.str m) j p2] [] pos)) none pos2) (dRaise (cls X.K x) W') := by
  obtain ⟨e1, e2, e3, e4⟩ := He.exc_ok f.e
  refine PS.imp (L2N.ps_raise hc tk (L2N.pmk_own PySem.F.excBase_ValueError e1 f.g e2 (raises_own e3 e4) hg hdb)) ?_
  rintro D σ H ⟨P, w, S, D', rh, sl, h, hd, hx⟩
  exact hx _ none S w h none σ H P rh.go sl rfl
/-! ### try .. except C as n -/
def wAsD (K : PySem.W.Frag) (c : Value) (i : Nat) (ts : Addr → Value → Option D → DS) (Wout : DWX) (D' : DEnds) : DWX := fun cl x S w =>
  ∃ b, PySem.W.exmOne K cl c = some b ∧ (b = true → ∀ a, w a = none → ts a cl x { nx := fun S' w' => D'.nx (S'.set i none) w', rt := D'.rt, bk := fun S' w' => D'.bk (S'.set i none) w', ct := fun S' w' => D'.ct (S'.set i none) w' } (S.set i (some (.ref a))) w) ∧ (b = false → Wout cl x S w)
def dTryAs (K : PySem.W.Frag) (c : Value) (i : Nat) (tb : DWX → DS) (ts : Addr → Value → Option D → DS) (Wout : DWX) : DS := fun D' S w => tb (wAsD K c i ts Wout D') D' S w
theorem qs_tryAs {x n : Str} {c : Value} {i : Nat} {body suite : List Stmt} {b₀ : Stmt} {np pos pos' : Pos} {tb : DWX → DS} {ts : Addr → Value → Option D → DS} (hN : X.N.Nodup) (hc : Names X x c) (tk : L2N.Takes X W)
    (hb : ∀ (V : WX) (V' : DWX) (pn : List (Addr × Obj)) (xe : Value → Shared → Prop), L2N.Takes (X.tr pn xe) V → PassesOwn (model X.prog X.w) X.A X.env xe → QSs (X.tr pn xe) V V' body (tb V'))
    (hsu : ∀ (a : Addr) (oe : Obj) (cl : Value) (d : Option Addr) (pn : List (Addr × Obj)) (x : Option D), L2N.Zn cl d oe → (∃ vs, oe.data = .fields vs) → (x = none → d = none) → QSs (X.suite a ((a, oe) :: pn)) W0 DW0 (b₀ :: suite) (ts a cl x))
    (hs : X.stack = X.env :: X.outer := by rfl) (hf : X.env.frame = some X.env.locals := by rfl) (hi : X.N[i]? = some n := by rfl) (hln : X.env.kindOf n = some .local := by rfl) :
    QS X W W' (.Try body [.ExceptHandler (some (.Name x np)) (some n) (b₀ :: suite) pos'] [] [] pos) (dTryAs X.K c i tb ts W') := by
  refine PS.imp (L2N.ps_try_as (tb := fun V D σ H => ∃ V', liftS X.K V V' (tb V') D σ H) (ts := fun a cl d D σ H => ∃ x, (x = none → d = none) ∧ liftS X.K W0 DW0 (ts a cl x) D σ H) hs hf hN hi hln hc tk
    (fun V pn xe tk' po => ⟨fun pins s σ H D I ⟨V', h⟩ => (hb V V' pn xe tk' po).run pins s σ H D I h⟩)
    (fun a oe cl d pn hz hv => ⟨fun pins s σ H D I ⟨x, hx, h⟩ => (hsu a oe cl d pn x hz hv hx).run pins s σ H D I h⟩)) ?_
  rintro D σ H ⟨P, w, S, D', rh, sl, h, hd, hx⟩
  refine ⟨wAsD X.K c i ts W' D', P, w, S, D', rh, sl, h, hd, ?_⟩
  rintro cl x S1 w1 ⟨b, hb1, hy, hn⟩ dd σ1 H1 P1 g sl1 xr
  refine ⟨b, hb1, fun e a ha => ⟨x, ?_, P1, w1, _, _, g.rh, sl1.set i (.ref a), hy e a (g.rh.free ha).2, ?_, WOk.none⟩, fun e => hx cl x S1 w1 (hn e) dd σ1 H1 P1 g sl1 xr⟩
  · rintro rfl; exact xr
  · exact ⟨fun S2 w2 q σ2 H2 P2 g2 r => (hd.nx.go g) _ w2 q _ H2 P2 g2 (r.del i), hd.rt.go g, fun S2 w2 q σ2 H2 P2 g2 r => (hd.bk.go g) _ w2 q _ H2 P2 g2 (r.del i), fun S2 w2 q σ2 H2 P2 g2 r => (hd.ct.go g) _ w2 q _ H2 P2 g2 (r.del i)⟩
/-! ### isinstance(n, C) in the suite -/
def dIsE (K : PySem.W.Frag) (i : Nat) (a : Addr) (cl : Value) (x : Option D) (cv : Value) : DE := fun S w Q => S[i]? = some (some (.ref a)) ∧ x = none ∧ ∃ C b, cl = .ref C ∧ ExcC K C ∧ PySem.W.kitOne K (.ref C) cv = some b ∧ Q (.bl b) w
theorem qe_isEv {a : Addr} {oe : Obj} {pn : List (Addr × Obj)} {cl : Value} {d : Option Addr} {x : Option D} {i : Nat} {n y : Str} {p p1 p2 pos : Pos} {cv : Value} {vv : V} (hz : L2N.Zn cl d oe) (hf : ∃ vs, oe.data = .fields vs) (hx : x = none → d = none)
    (hy : PE (X.suite a ((a, oe) :: pn)) (.Name y p2) (tC vv)) (hu : ∀ u, RelV vv u → u = cv) (hn : PE (X.suite a ((a, oe) :: pn)) (.Name n p1) (tVar i)) (hm : X.mg "isinstance" = none) (hg : Gl X "isinstance" := by rfl)
    (he : starEach [.Name n p1, .Name y p2] X.env = (false, eval (.Name n p1) X.env) :: starEach [.Name y p2] X.env := by rfl) (hpl : (backTo pos (starEach [.Name y p2] X.env)).any (·.1) = false := by rfl) :
    QE (X.suite a ((a, oe) :: pn)) W W' (.Call (.Name "isinstance" p) [.Name n p1, .Name y p2] [] pos) (dIsE X.K i a cl x cv) := by
  refine ⟨fun pins s σ H Q I h => ?_⟩
  obtain ⟨P, w, S, Q', rh, sl, ⟨hs, h0, C, b, rfl, hC, hk, hq⟩, hr, _⟩ := h
  obtain ⟨v, hv, rv⟩ := sl.2 i _ hs
  cases rv
  have hd := hx h0
  subst hd
  refine (pe_callB (X := X.suite a ((a, oe) :: pn)) (call_isE (X := X) hC hz.zc hf) hg hm (by decide +kernel) (pa_cons hn (pa_cons hy pa_nil)) (by decide) (by decide) he hpl).run pins s σ H Q I ?_
  exact ⟨_, hv, vv, cv, b, rfl, hu, hk, hr _ w hq _ H P rh.go (.bl b)⟩
theorem qe_isE {a : Addr} {oe : Obj} {pn : List (Addr × Obj)} {cl : Value} {d : Option Addr} {x : Option D} {i : Nat} {n y : Str} {p p1 p2 pos : Pos} (hz : L2N.Zn cl d oe) (hf : ∃ vs, oe.data = .fields vs) (hx : x = none → d = none)
    (f : XF X.K X.mg y) (hn : PE (X.suite a ((a, oe) :: pn)) (.Name n p1) (tVar i)) (hm : X.mg "isinstance" = none) (hgy : Gl X y := by rfl) (hdy : (y == ("__debug__" : Str)) = false := by decide) (hg : Gl X "isinstance" := by rfl)
    (he : starEach [.Name n p1, .Name y p2] X.env = (false, eval (.Name n p1) X.env) :: starEach [.Name y p2] X.env := by rfl) (hpl : (backTo pos (starEach [.Name y p2] X.env)).any (·.1) = false := by rfl) :
    QE (X.suite a ((a, oe) :: pn)) W W' (.Call (.Name "isinstance" p) [.Name n p1, .Name y p2] [] pos) (dIsE X.K i a cl x (cls X.K y)) :=
  qe_isEv hz hf hx (pe_glob (v := .ref (He.ga X.K y)) hgy f.g rfl hdy) (fun _ r => r) hn hm hg he hpl
theorem qe_isET {a : Addr} {oe : Obj} {pn : List (Addr × Obj)} {cl : Value} {d : Option Addr} {x : Option D} {i : Nat} {n y : Str} {T : String} {p p1 p2 pos : Pos} (hz : L2N.Zn cl d oe) (hf : ∃ vs, oe.data = .fields vs) (hx : x = none → d = none)
    (hmy : X.mg y = none) (hvy : bootBuiltins y = some (.type T)) (hn : PE (X.suite a ((a, oe) :: pn)) (.Name n p1) (tVar i)) (hm : X.mg "isinstance" = none) (hgy : Gl X y := by rfl) (hny : y ≠ "__name__" := by decide) (hdy : (y == ("__debug__" : Str)) = false := by decide) (hg : Gl X "isinstance" := by rfl)
    (he : starEach [.Name n p1, .Name y p2] X.env = (false, eval (.Name n p1) X.env) :: starEach [.Name y p2] X.env := by rfl) (hpl : (backTo pos (starEach [.Name y p2] X.env)).any (·.1) = false := by rfl) :
    QE (X.suite a ((a, oe) :: pn)) W W' (.Call (.Name "isinstance" p) [.Name n p1, .Name y p2] [] pos) (dIsE X.K i a cl x (.type T)) :=
  qe_isEv hz hf hx (pe_bltn (v := .ty T) hgy hmy hvy rfl hny hdy) (fun _ r => r) hn hm hg he hpl
end
def dRevO (te : DE) : DE := fun S w Q => te S w fun x w1 => match x with
  | .lst xs => ∀ p, w1 p = none → Q (.ref p) (put w1 p (.lst xs.reverse))
  | _ => False
theorem qe_revO {X : Cx} {W : WX} {W' : DWX} {e : Expr} {te : DE} {k : Nat} {p1 p2 p3 pos : Pos} (he : QE X W W' e te) : QE X W W' (.Subscript e (.Slice none none (some (.UnaryOp .USub (.Constant (.int 1) k p1) p2)) p3) pos) (dRevO te) := PE.imp (pe_revL he)
  fun σ H Q ⟨P, w, S, Q', rh, sl, h, hq, hx⟩ => ⟨P, w, S, _, rh, sl, h, fun d w1 h1 v H1 P1 g1 r1 => by
    cases r1 with
    | lst q r =>
      rename_i a vs ds
      refine ⟨_, _, rfl, SqL.of (g1.rh.per _ _ q), fun p hp => ?_⟩
      have g := g1.rh.newW (o := .lst vs.reverse) (n := .lst ds.reverse) hp ⟨_, rfl, r.reverse⟩
      exact hq _ _ (h1 p (g1.rh.free hp).2) _ _ _ (g1.trans g) (.ref p)
    | _ => exact h1.elim, hx⟩
end TD

set_option maxHeartbeats 2000000
namespace TD
open PySem PySem.Spec PyProof.Rows L2
/-! ### making an own exception by its __init__, nothing being handled: its context is None -/
theorem made_ctx {X : Cx} {pins : List (Addr × Obj)} {σ : L2.St} {H1 H2 : Hp} {Q : XK} {m0 m1 m2 : Heap} {ga gb : Array GenState} {da db : Drawn} {ta tb : Nat} {oa ob : OsState} {a C d : Addr} {fs : List (Str × V)}
    (r : Raises X (.ref C)) (J : Inv X pins σ H1 ⟨m0, ga, da, ta, oa⟩) (new : m0.objs.size ≤ a) (keep : ∀ b o, m0.get? b = some o → m1.get? b = some o)
    (un : Un (frs X.stack) [] (upd H1 a (exo a C none)) H2 m1 m2) (ok : HOk X.prog X.w H2 m2) (same : ob = oa) (bare : AllBare gb) (atA : H2 a = some (exo a C (some d))) (atD : H2 d = some (exd d fs)) (was : H1 d = none)
    (q : Q (.ref C) (some d) (upd (del H2 a) d (.xd fs))) : L2N.MkP X pins σ Q (.ref a) ⟨m2, gb, db, tb, ob⟩ := by
  obtain ⟨t, G, JG, kG, fresh, obj, gone⟩ := mk_end0 (d2 := db) (t2 := tb) J new keep un ok same bare atA atD was
  exact ⟨a, _, _, ⟨G, gb, db, tb, ob⟩, _, .ref C, some d, rfl, JG, kG, fresh, obj, ⟨rfl, rfl, fun vs e => by cases e; rfl⟩, rfl, rfl, gone, rfl, bare, r, q⟩
theorem makes_ctx {X : Cx} {cx : CXT} {x : Str} {e : Expr} {es : List Expr} {ta : TA} {p pos : Pos} {C fI : Addr} {k : Nat} {fd : FuncData} {ps : List Str} {sp : Sp} (T : OexC X.K C) (hi : PySem.W.findIn X.K (.ref C) "__init__" = some (some (.ref fI)))
    (ht : PySem.W.typeIn X.K (.ref fI) = some (.type "function")) (F : FnOk X.prog X.w X.K X.mg X.base cx k fI fd ps sp) (room : Room (k + 1) X.A) (bd : Binds X.K fd ps []) (out : Passes cx X fun _ _ _ => False) (gl : Gl X x) (mgx : X.mg x = some (.ref C)) (args : PA X (e :: es) ta)
    (dbg : (x == ("__debug__" : Str)) = false := by decide) (st : starEach (e :: es) X.env = (false, eval e X.env) :: starEach es X.env := by rfl) (pl : (backTo pos (starEach es X.env)).any (·.1) = false := by rfl) :
    L2N.PMk X (.Call (.Name x p) (e :: es) [] pos) (tMkO C sp [] ta) := by
  intro pins s σ H Q I h
  obtain ⟨_, _, _, _, bases, _, _, _, _, _, _, _, _, _, _, atC, okB⟩ := T.cls
  refine wpAny_Call_Name_kw (ld_glob I gl mgx (PySem.W.callWith_K (h₀ := X.base) I.ok.mod.kin T.kC (thn (args.run pos pins s σ H _ I h) ?_) st pl) dbg)
  rintro us ⟨m, g, dr, tk, os⟩ ⟨vs, H1, J, rv, few, go⟩
  refine ⟨J.kIn, ?_⟩
  have up : m.objs.size ≤ m.objs.size + 1 := Nat.le_succ _
  have body := go (m.objs.size + 1) (J.hok.fresh up)
  let m1 : Heap := (m.push (PySem.W.kdv_tup us)).push (PySem.HandSPX.excO C m.objs.size)
  have old : ∀ b o, m.get? b = some o → m1.get? b = some o := fun b o z => Heap.get?_push_of_some _ (Heap.get?_push_of_some _ z)
  have here : m1.get? (m.objs.size + 1) = some (PySem.HandSPX.excO C m.objs.size) := by
    show ((m.push (PySem.W.kdv_tup us)).push (PySem.HandSPX.excO C m.objs.size)).get? (m.objs.size + 1) = _
    heap_get
  have J1 : Inv X pins σ (upd H1 (m.objs.size + 1) (exo (m.objs.size + 1) C none)) ⟨m1, g, dr, tk, os⟩ := J.laid (t' := tk) (a := m.objs.size + 1) (o := exo (m.objs.size + 1) C none) (h' := m1) old up (exo_ok here)
  rw [List.append_nil] at body
  have rv1 : Vals (V.ref (m.objs.size + 1) :: vs) (Value.ref (m.objs.size + 1) :: us) := .cons rfl rv
  have cnt : (Value.ref (m.objs.size + 1) :: us).length = ps.length := by rw [← F.len _ _ _ _ body]; exact rv1.length.symm
  have fits : us.length ≤ sizeLine := by rw [← Paired.length rv, sizeLine_eq]; omega
  have bd' := bd ⟨m1, g, dr, tk, os⟩ (Value.ref (m.objs.size + 1) :: us) J1.kIn (by rw [List.append_nil]; exact cnt)
  rw [List.append_nil] at bd'
  have inner := F.run _ X.stack _ _ ⟨Value.ref (m.objs.size + 1) :: us, []⟩ (Value.ref (m.objs.size + 1) :: us) _ _ (fun _ _ _ => False) (room.make C us []) (J1.env0.make C us []) bd' rv1 body
  refine wpAny_call (PySem.HandSPX.call_own PySem.F.excBase_ValueError (fun Y => PySem.HandSPX.refsVE_contains Y bases okB) (J.kIn _ _ atC) (PySem.W.looks_findIn J.kIn hi) (fun self => PySem.W.bind_fn J.kIn self ht) fits (codeAny_mono inner ?_))
  rintro (er | fl) s2 z
  · exact out pins σ _ _ er s2 J1 z
  · cases fl with
    | ret u =>
      obtain ⟨v, H2, same, bare, un, ok, ru, rfl, d, fs, atA, atD, was, q⟩ := z
      exact ⟨ru, made_ctx (raises_own T.exC T.tyC) J up old un ok same bare atA atD was q⟩
    | next => exact z.elim
    | brk => exact z.elim
    | cont => exact z.elim
end TD

set_option maxHeartbeats 2000000
namespace TD
open PySem PySem.Spec PySem.Calls PyProof.Rows
open PySem.W (findIn specialIn takesIn subIn hasDictIn mroIn InstAt findObj clsIn)
/-! ### isinstance of a caught error that has a dict -/
theorem find_data {K : PySem.W.Frag} {C : Addr} {od : Option Obj} {nm : Str} {v g : Value} (some_ : (clsIn K C).isSome = true) (at_ : findIn K (.ref C) nm = some (some v)) (get_ : specialIn K v "__get__" = some (some g)) (tak : takesIn K v = some true) : findObj K C od nm = some (.bind g v) := by
  obtain ⟨cd, e⟩ := Option.isSome_iff_exists.mp some_
  unfold findObj
  rw [e, Option.bind_some, at_, Option.bind_some]
  simp [get_, tak]
section
variable {prog : Program} {w : World} {A : Around} {E : Value → Shared → Prop} {s : Shared} {K : PySem.W.Frag} {x C : Addr} {ox : Obj} {od : Option Obj}
theorem class_attr {Q : Option Value → Shared → Prop} (c : L2.ExcC K C) (inK : K.In s.heap) (J : InstAt s.heap x ox C od) (h : Q (some (.ref C)) { s with toks := s.toks + 1 }) : wpAny (model prog w) A (getAttr? (.ref x) "__class__") Q E s := by
  have isC : (clsIn K C).isSome = true := by
    obtain ⟨cd, e, _⟩ := PySem.W.any_some c.hd
    rw [e]; rfl
  have fo := find_data (od := od) isC c.ha c.hn c.ht
  obtain ⟨m, g, d, t, os⟩ := s
  have y0 := J.type (M := model prog w)
  have y1 := PySem.W.looks_findIn (M := model prog w) inK c.hg
  have y2 := PySem.W.looks_findIn (M := model prog w) inK c.hk
  have y3 := PySem.W.looks_find (M := model prog w) inK J fo
  have isB : PySem.W.Looks (model prog w) m (isInstance (.ref x) (.type "BaseException")) true := y0.andThen (PySem.W.looks_subIn inK c.hs)
  have n2 : (Value.builtin "BaseException.__getattribute__" == Value.builtin "object.__getattribute__") = false := by decide +kernel
  have n1 : (onTheHeap (Value.ref C) && Value.builtin "BaseException.__getattribute__" == Value.builtin "object.__getattribute__") = false := by
    rw [n2]; rfl
  unfold getAttr? getAttrBy? getAttrBy
  refine wpAny_bind (wpAny_mkText (wpAny_bind (wpAny_attempt (wpAny_holding (wpAny_bind (y0.at (wpAny_bind (y1.at ?_))))))))
  change wpAny _ _ (if (onTheHeap (Value.ref C) && Value.builtin "BaseException.__getattribute__" == Value.builtin "object.__getattribute__") = true then _ else _) _ _ _
  rw [n1, if_neg Bool.false_ne_true]
  unfold getAttrByItsOwn hookBefore
  refine wpAny_bind ?_
  have oh : onTheHeap (Value.ref C) = true := rfl
  rw [if_pos oh]
  refine y2.at (wpAny_bind (wpAny_attempt (wpAny_holding ?_)))
  unfold callGetattribute
  have no : ¬ (false && onTheHeap (Value.builtin "BaseException.__getattribute__")) = true := Bool.false_ne_true
  rw [if_neg no]
  unfold boundAndCalled
  rw [PySem.F.excAttr_ValueError.ga.bind (.ref x)]
  refine wpAny_bind (wpAny_pure ?_)
  change wpAny _ _ (call (.builtin "BaseException.__getattribute__") [.ref x, .str "__class__" t]) _ _ _
  refine wpAny_call (codeAny_call_builtin PySem.F.excAttr_ValueError.ga.plain PySem.F.entry_bexc_ga (@PySem.W.check_slot (model prog w) _ _ ⟨m, g, d, t + 1, os⟩ "BaseException.__getattribute__" "BaseException" "__getattribute__" (.ref x) [.str "__class__" t] [] _ (by decide +kernel) (by decide +kernel) isB (PySem.F.args_bexc_ga (.ref x) (.str "__class__" t)) ?_))
  unfold Builtin.«object.__getattribute__»
  refine wpAny_bind (wpAny_of_eq (a := ((Value.ref x : Value), [Value.str "__class__" t])) (by first | rfl | (simp only [slotArgs]; rfl)) (wpAny_bind (wpAny_pure (wpAny_bind (y0.at (wpAny_bind (y3.at ?_)))))))
  change wpAny _ _ (holding [Value.builtin "object.__class__"] (call (.builtin "getset_descriptor.__get__") [.builtin "object.__class__", .ref x, .ref C]) >>= ret) _ _ _
  refine wpAny_bind (wpAny_holding (wpAny_call (PySem.W.class_get (s := ⟨m, g, d, t + 1, os⟩) (ox := ox) (od := od) inK J c.hm (wpAny_pure ?_))))
  change wpAny _ _ (handedOut (.ref C)) _ _ _
  rw [PySem.W.handedOut_of (v := .ref C) rfl]
  first
    | exact wpAny_pure (wpAny_pure h)
    | exact wpAny_pure h
    | exact wpAny_pure (wpAny_bind (wpAny_pure (wpAny_pure h)))
theorem kit_exc (c : L2.ExcC K C) : PySem.W.KitX K (.ref x) (.ref C) (fun h => InstAt h x ox C od) where
  ty := fun _ _ _ J => J.type
  it := fun _ _ inK _ => by
    obtain ⟨cd, e, _⟩ := PySem.W.any_some c.hd
    unfold clsIn at e
    split at e
    · rename_i look
      intro A' Q' E' s' k q
      unfold isType loadHead
      exact wpAny_bind (wpAny_loadPart (k _ _ (inK _ _ look)) (wpAny_pure q))
    · cases e
  ne := fun h tp dd its n sl inK there => by
    obtain ⟨cd, e, _⟩ := PySem.W.any_some c.hd
    refine Bool.eq_false_iff.mpr fun q => ?_
    obtain rfl : C = tp := Value.ref.inj (beq_iff_eq.mp q)
    unfold clsIn at e
    split at e
    · rename_i look
      cases (inK _ _ look).symm.trans there
    · cases e
  ca := fun inK J k => class_attr c inK J k
end
open L2
/-- isinstance(e, c) in a suite, whatever dict e has -/
theorem call_isD {X : Cx} {a C dd : Addr} {oe : Obj} {pn : List (Addr × Obj)} (c : ExcC X.K C) (hz : Zc (.ref C) (some dd) oe) (hf : ∃ vs, oe.data = .fields vs) : CallR (X.suite a ((a, oe) :: pn)) (.builtin "isinstance") (fun xs H Q => ∃ fs, H dd = some (.xd fs) ∧ rIsE X.K C a xs H Q) := by
  intro pins s σ H xs us Q I r h
  obtain ⟨fs, hd, cc, cv, b, rfl, hcv, e, q⟩ := h
  cases r with
  | cons rx rr =>
    cases rr with
    | cons rt rr =>
      cases rr
      cases rx
      obtain rfl := hcv _ rt
      obtain ⟨here, _⟩ := I.pin (a, oe) (List.mem_append.mpr (.inl List.mem_cons_self))
      obtain ⟨vs, hv⟩ := hf
      have ok : ObjOk X.prog X.w H s.heap dd (.xd fs) := I.hok dd _ hd
      obtain ⟨mA, hns, _⟩ := ok
      obtain ⟨od, ho, _⟩ := lookIn_ns hns
      have J : InstAt s.heap a oe C (some od) := ⟨here, hz.1, by unfold PySem.W.notCls; rw [hv] <;> rfl, by rw [hz.2]; exact ho⟩
      exact PySem.W.kia_one (kit_exc c) I.kIn J e (fun z => nomatch z) fun tk => ⟨.bl b, H, I.kept (t' := tk) fun _ _ z => z, rfl, q⟩
end TD

set_option maxHeartbeats 2000000
namespace TD
open PySem PySem.Spec PyProof.Rows L2
/-! ### try .. except C as n, the error may carry a field -/
def excD (a dd : Addr) : Option D → D
  | none => .ref a
  | some d => .exc a dd d
def wXD (K : PySem.W.Frag) (c : Value) (i : Nat) (ts : Addr → Addr → Value → Option D → DS) (Wout : DWX) (D' : DEnds) : DWX := fun cl x S w =>
  ∃ b, PySem.W.exmOne K cl c = some b ∧ (b = true → ∀ a dd, w a = none → ts a dd cl x { nx := fun S' w' => D'.nx (S'.set i none) w', rt := D'.rt, bk := fun S' w' => D'.bk (S'.set i none) w', ct := fun S' w' => D'.ct (S'.set i none) w' } (S.set i (some (excD a dd x))) w) ∧ (b = false → Wout cl x S w)
def dTryX (K : PySem.W.Frag) (c : Value) (i : Nat) (tb : DWX → DS) (ts : Addr → Addr → Value → Option D → DS) (Wout : DWX) : DS := fun D' S w => tb (wXD K c i ts Wout D') D' S w
section
variable {X : Cx} {W : WX} {W' : DWX}
theorem qs_tryX {x n : Str} {c : Value} {i : Nat} {body suite : List Stmt} {b₀ : Stmt} {np pos pos' : Pos} {tb : DWX → DS} {ts : Addr → Addr → Value → Option D → DS} (hN : X.N.Nodup) (hc : Names X x c) (tk : L2N.Takes X W)
    (hb : ∀ (V : WX) (V' : DWX) (pn : List (Addr × Obj)) (xe : Value → Shared → Prop), L2N.Takes (X.tr pn xe) V → PassesOwn (model X.prog X.w) X.A X.env xe → QSs (X.tr pn xe) V V' body (tb V'))
    (hsu : ∀ (a dd : Addr) (oe : Obj) (cl : Value) (d : Option Addr) (pn : List (Addr × Obj)) (x : Option D), L2N.Zn cl d oe → (∃ vs, oe.data = .fields vs) → (x = none → d = none) ∧ (∀ v, x = some v → d = some dd) → QSs (X.suite a ((a, oe) :: pn)) W0 DW0 (b₀ :: suite) (ts a dd cl x))
    (hs : X.stack = X.env :: X.outer := by rfl) (hf : X.env.frame = some X.env.locals := by rfl) (hi : X.N[i]? = some n := by rfl) (hln : X.env.kindOf n = some .local := by rfl) :
    QS X W W' (.Try body [.ExceptHandler (some (.Name x np)) (some n) (b₀ :: suite) pos'] [] [] pos) (dTryX X.K c i tb ts W') := by
  refine PS.imp (L2N.ps_try_as (tb := fun V D σ H => ∃ V', liftS X.K V V' (tb V') D σ H) (ts := fun a cl d D σ H => ∃ dd x, ((x = none → d = none) ∧ ∀ v, x = some v → d = some dd) ∧ liftS X.K W0 DW0 (ts a dd cl x) D σ H) hs hf hN hi hln hc tk
    (fun V pn xe tk' po => ⟨fun pins s σ H D I ⟨V', h⟩ => (hb V V' pn xe tk' po).run pins s σ H D I h⟩)
    (fun a oe cl d pn hz hv => ⟨fun pins s σ H D I ⟨dd, x, hx, h⟩ => (hsu a dd oe cl d pn x hz hv hx).run pins s σ H D I h⟩)) ?_
  rintro D σ H ⟨P, w, S, D', rh, sl, h, hd, hx⟩
  refine ⟨wXD X.K c i ts W' D', P, w, S, D', rh, sl, h, hd, ?_⟩
  rintro cl x S1 w1 ⟨b, hb1, hy, hn⟩ d0 σ1 H1 P1 g sl1 xr
  have ends : EndsOk X.K H1 P1 w1 { nx := fun S' w' => D'.nx (S'.set i none) w', rt := D'.rt, bk := fun S' w' => D'.bk (S'.set i none) w', ct := fun S' w' => D'.ct (S'.set i none) w' } { nx := fun σ' H' => D.nx (σ'.set i none) H', rt := D.rt, bk := fun σ' H' => D.bk (σ'.set i none) H', ct := fun σ' H' => D.ct (σ'.set i none) H' } :=
    ⟨fun S2 w2 q σ2 H2 P2 g2 r => (hd.nx.go g) _ w2 q _ H2 P2 g2 (r.del i), hd.rt.go g, fun S2 w2 q σ2 H2 P2 g2 r => (hd.bk.go g) _ w2 q _ H2 P2 g2 (r.del i), fun S2 w2 q σ2 H2 P2 g2 r => (hd.ct.go g) _ w2 q _ H2 P2 g2 (r.del i)⟩
  refine ⟨b, hb1, fun e a ha => ?_, fun e => hx cl x S1 w1 (hn e) d0 σ1 H1 P1 g sl1 xr⟩
  cases x with
  | none => exact ⟨a, none, ⟨fun _ => xr, fun _ z => (nomatch z)⟩, P1, w1, _, _, g.rh, sl1.set i (.ref a), hy e a a (g.rh.free ha).2, ends, WOk.none⟩
  | some v =>
    obtain ⟨dd, u, rfl, hp, rv⟩ := xr
    exact ⟨dd, some v, ⟨fun z => (nomatch z), fun _ _ => rfl⟩, P1, w1, _, _, g.rh, sl1.set i (.exc hp rv), hy e a dd (g.rh.free ha).2, ends, WOk.none⟩
def dIsX (K : PySem.W.Frag) (i : Nat) (a dd : Addr) (cl : Value) (x : Option D) (cv : Value) : DE := fun S w Q => S[i]? = some (some (excD a dd x)) ∧ ∃ C b, cl = .ref C ∧ ExcC K C ∧ PySem.W.kitOne K (.ref C) cv = some b ∧ Q (.bl b) w
theorem qe_isXv {a dd : Addr} {oe : Obj} {pn : List (Addr × Obj)} {cl : Value} {d : Option Addr} {x : Option D} {i : Nat} {n y : Str} {p p1 p2 pos : Pos} {cv : Value} {vv : V} (hz : L2N.Zn cl d oe) (hf : ∃ vs, oe.data = .fields vs) (hx : (x = none → d = none) ∧ ∀ v, x = some v → d = some dd)
    (hy : PE (X.suite a ((a, oe) :: pn)) (.Name y p2) (tC vv)) (hu : ∀ u, RelV vv u → u = cv) (hn : PE (X.suite a ((a, oe) :: pn)) (.Name n p1) (tVar i)) (hm : X.mg "isinstance" = none) (hg : Gl X "isinstance" := by rfl)
    (he : starEach [.Name n p1, .Name y p2] X.env = (false, eval (.Name n p1) X.env) :: starEach [.Name y p2] X.env := by rfl) (hpl : (backTo pos (starEach [.Name y p2] X.env)).any (·.1) = false := by rfl) :
    QE (X.suite a ((a, oe) :: pn)) W W' (.Call (.Name "isinstance" p) [.Name n p1, .Name y p2] [] pos) (dIsX X.K i a dd cl x cv) := by
  refine ⟨fun pins s σ H Q I h => ?_⟩
  obtain ⟨P, w, S, Q', rh, sl, ⟨hs, C, b, rfl, hC, hk, hq⟩, hr, _⟩ := h
  obtain ⟨v, hv, rv⟩ := sl.2 i _ hs
  have res := hr _ w hq _ H P rh.go (.bl b)
  cases x with
  | none =>
    have hd := hx.1 rfl
    subst hd
    cases rv
    exact (pe_callB (X := X.suite a ((a, oe) :: pn)) (call_isE (X := X) hC hz.zc hf) hg hm (by decide +kernel) (pa_cons hn (pa_cons hy pa_nil)) (by decide) (by decide) he hpl).run pins s σ H Q I ⟨_, hv, vv, cv, b, rfl, hu, hk, res⟩
  | some z =>
    have hd := hx.2 z rfl
    subst hd
    cases rv with
    | exc hp _ => exact (pe_callB (X := X.suite a ((a, oe) :: pn)) (call_isD (X := X) hC hz.zc hf) hg hm (by decide +kernel) (pa_cons hn (pa_cons hy pa_nil)) (by decide) (by decide) he hpl).run pins s σ H Q I ⟨_, hv, _, rh.per _ _ hp, vv, cv, b, rfl, hu, hk, res⟩
/-- n.at -/
def dAtX (K : PySem.W.Frag) (i : Nat) (a dd : Addr) (cl : Value) (x : Option D) : DE := fun S w Q => S[i]? = some (some (excD a dd x)) ∧ ∃ C v, cl = .ref C ∧ XfC K C ∧ PySem.W.findIn K (.ref C) "at" = some none ∧ x = some v ∧ Q v w
theorem qe_atX {a dd : Addr} {oe : Obj} {pn : List (Addr × Obj)} {cl : Value} {d : Option Addr} {x : Option D} {i : Nat} {n : Str} {p1 pos : Pos} (hz : L2N.Zn cl d oe) (hf : ∃ vs, oe.data = .fields vs) (hx : (x = none → d = none) ∧ ∀ v, x = some v → d = some dd)
    (hn : PE (X.suite a ((a, oe) :: pn)) (.Name n p1) (tVar i)) (hb : attributeBase (.Name n p1) "at" X.env (eval (.Name n p1) X.env) = eval (.Name n p1) X.env := by rfl) : QE (X.suite a ((a, oe) :: pn)) W W' (.Attribute (.Name n p1) "at" pos) (dAtX X.K i a dd cl x) := by
  refine ⟨fun pins s σ H Q I h => ?_⟩
  obtain ⟨P, w, S, Q', rh, sl, ⟨hs, C, v, rfl, hC, hno, rfl, hq⟩, hr, _⟩ := h
  obtain ⟨u, hu, ru⟩ := sl.2 i _ hs
  have hd := hx.2 v rfl
  subst hd
  cases ru with
  | exc hp rv => exact (pe_xf hC hno hz.zc hf hn hb).run pins s σ H Q I ⟨_, hu, rfl, rfl, dd, _, _, rfl, rh.per _ _ hp, rfl, hr _ w hq _ H P rh.go rv⟩
end
end TD

set_option maxHeartbeats 2000000
namespace TD
open PySem PySem.Spec PyProof.Rows L2
/-! ### raise C(e), C's __init__ keeping e under the name at -/
theorem oexB_ok {K : PySem.W.Frag} {C : Addr} (h : oexB K C = true) : OexC K C := by
  unfold oexB at h
  simp only [Bool.and_eq_true, decide_eq_true_eq] at h
  obtain ⟨h1, h2, h3, h4, h5⟩ := h
  refine ⟨?_, He.eqO_ok h2, h3, h4, h5⟩
  split at h1
  · rename_i dd cd sl look
    split at h1
    · rename_i C' bm k0 k1 k2 k3 n k5 hm hs
      simp only [Bool.and_eq_true, decide_eq_true_eq, Bool.not_eq_true'] at h1
      obtain ⟨rfl, rfl, noDel, hasD, tail⟩ := h1
      obtain ⟨nm, bs, mro, ns, qn, hd, sn, sub, ab, col, del⟩ := cd
      dsimp only at hm noDel hasD
      subst hm noDel hasD
      obtain ⟨l⟩ := sl
      dsimp only at hs
      subst hs
      exact ⟨nm, qn, ns, bs, bm, sn, sub, ab, col, dd, k0, k1, k2, k3, k5, look, tail⟩
    · cases h1
  · cases h1
def spI (C : Addr) : Sp := fun vs H Q _ => ∃ a v, vs = [.ref a, v] ∧ H a = some (exo a C none) ∧ ∀ dx, H dx = none → dx ≠ a → Q .non (upd (upd H dx (exd dx [("at", v)])) a (exo a C (some dx)))
theorem ok_initAt {P : Program} {w : World} {K : PySem.W.Frag} {mg : Str → Option Value} {base : Heap} {x qual : Str} {params : Arguments} {body : List Stmt} {scope : Scope} {f C : Addr} {fd : FuncData} (F : FunD K x qual params body scope [] [] f fd) (Sc : FnScope ["self", "at"] ["self", "at"] scope) (T : OexC K C) (no : PySem.W.findIn K (.ref C) "at" = some none)
    (bd : ∀ (cdv : Value) (A : Around) (outer : List Env) (s : Shared) (H : Hp) (E : XK), PSs (cxOf (L2N.CX P w) P w K mg base ["self", "at"] qual scope f cdv A outer s H E) body (tOst K "at" (tVar 0) (tVar 1))) : FnOk P w K mg base (L2N.CX P w) 1 f fd ["self", "at"] (spI C) :=
  F.ok Sc (fun vs H Q E ⟨_, _, e, _⟩ => by rw [e]; rfl) fun cdv A outer s H vs Q E hr ⟨a, v, e, ha, q⟩ =>
    ⟨_, bd cdv A outer s H E, by rw [e]; exact ⟨_, rfl, _, rfl, a, C, rfl, T, no, .inl ⟨ha, fun dx h1 h2 => q dx h1 h2⟩⟩⟩
structure XA (P : Program) (w : World) (K : PySem.W.Frag) (mg : Str → Option Value) (base : Heap) (x : Str) : Prop where
  g : mg x = some (.ref (He.ga K x))
  t : OexC K (He.ga K x)
  ex : ∃ fI fd, PySem.W.findIn K (.ref (He.ga K x)) "__init__" = some (some (.ref fI)) ∧ PySem.W.typeIn K (.ref fI) = some (.type "function") ∧ FnOk P w K mg base (L2N.CX P w) 1 fI fd ["self", "at"] (spI (He.ga K x)) ∧ Binds K fd ["self", "at"] []
def dRaiseAt (c : Value) (W' : DWX) (te : DE) : DS := fun _ S w => te S w fun d w1 => W' c (some d) S w1
theorem qs_raiseAt {X : Cx} {W : WX} {W' : DWX} {x : Str} {e : Expr} {te : DE} {p pos pos2 : Pos} {j : Nat} (f : XA X.prog X.w X.K X.mg X.base x) (hr : Room j X.A) (tk : L2N.Takes X W) (he : QE X W W' e te) (hj : 2 ≤ j := by first | decide | omega) (hc : X.calm = true := by rfl) (hg : Gl X x := by rfl) (hdb : (x == ("__debug__" : Str)) = false := by decide)
    (st : starEach [e] X.env = (false, eval e X.env) :: starEach [] X.env := by rfl) : QS X W W' (.Raise (some (.Call (.Name x p) [e] [] pos)) none pos2) (dRaiseAt (cls X.K x) W' te) := by
  obtain ⟨fI, fd, hi, ht, F, bd⟩ := f.ex
  refine PS.imp (L2N.ps_raise hc tk (makes_ctx (k := 1) f.t hi ht F (hr.mono hj) bd (fun _ _ _ _ _ _ _ z => by obtain ⟨_, _, _, _, _, _, _, _, _, _, _, _, z⟩ := z; exact z.elim) hg f.g (pa_cons he pa_nil st) hdb st rfl)) ?_
  rintro D σ H ⟨P, w, S, D', rh, sl, h, hd, hx⟩
  refine ⟨P, w, S, _, rh, sl, h, fun d w1 h1 v H1 P1 g1 r1 => ⟨(show 1 ≤ 1000 by decide), fun a ha => ?_⟩, hx⟩
  refine ⟨a, v, rfl, upd_same, fun dx h2 h3 => ⟨rfl, dx, [("at", v)], upd_same, by rw [upd_ne h3, upd_same], by rwa [upd_ne h3] at h2, ?_⟩⟩
  have h4 : H1 dx = none := by rwa [upd_ne h3] at h2
  have e : upd (del (upd (upd (upd H1 a (exo a (He.ga X.K x) none)) dx (exd dx [("at", v)])) a (exo a (He.ga X.K x) (some dx))) a) dx (.xd [("at", v)]) = upd H1 dx (.xd [("at", v)]) := by
    funext b
    by_cases e1 : b = dx
    · rw [e1, upd_same, upd_same]
    · rw [upd_ne e1, upd_ne e1]
      by_cases e2 : b = a
      · rw [e2, del_same, ha]
      · rw [del_ne e2, upd_ne e2, upd_ne e1, upd_ne e2]
  rw [e]
  have g := g1.rh.newP (o := .xd [("at", v)]) h4
  exact hx _ (some d) S w1 h1 (some dx) σ _ _ (g1.trans g) (sl.mono (g1.trans g).ex) ⟨dx, v, rfl, upd_same, r1.mono g.ex⟩
end TD

set_option maxHeartbeats 2000000
namespace TD
open PySem PySem.Spec PyProof.Rows L2
/-! ### a head that tells more -/
theorem ex_oex {K : PySem.W.Frag} {x : Str} (h : (XFa.oex x).ok K = true) : OexC K (He.ga K x) ∧ PySem.W.typeIn K (.ref (He.ma K (He.ga K x) "__init__")) = some (.type "function") ∧ PySem.W.findIn K (.ref (He.ga K x)) "__init__" = some (some (.ref (He.ma K (He.ga K x) "__init__"))) := by
  simp only [XFa.ok, Bool.and_eq_true, decide_eq_true_eq] at h
  exact ⟨oexB_ok h.1.1, h.1.2, He.eqO_ok h.2⟩
theorem ex_xf {K : PySem.W.Frag} {x f : Str} (h : (XFa.xf x f).ok K = true) : XfC K (He.ga K x) ∧ PySem.W.findIn K (.ref (He.ga K x)) f = some none := by
  simp only [XFa.ok, Bool.and_eq_true] at h
  exact ⟨xfB_ok h.1, He.eqO_ok h.2⟩
/-- a tuple of the module's -/
structure GT (K : PySem.W.Frag) (mg : Str → Option Value) (x : Str) (ds : List D) : Prop where
  g : mg x = some (.ref (He.ga K x))
  r : ∀ P, Rep K P (.rot ds) (.ref (He.ga K x))
theorem gt_of {K : PySem.W.Frag} {mg : Str → Option Value} {x : Str} {vs : List He.Dv} {ds : List D} (g : mg x = some (.ref (He.ga K x))) (h : (XFa.tup x vs).ok K = true) (r : ∀ P, RepL K P ds (vs.map (He.Dv.v K))) : GT K mg x ds :=
  ⟨g, fun P => .rot (He.tupB_ok h P) (r P)⟩
theorem qe_gobj {X : Cx} {W : WX} {W' : DWX} {x : Str} {ds : List D} {pos : Pos} (f : GT X.K X.mg x ds) (hg : Gl X x := by rfl) (hd : (x == ("__debug__" : Str)) = false := by decide) : QE X W W' (.Name x pos) (dC (.rot ds)) := qe_glob f.g (v := .ref (He.ga X.K x)) rfl f.r hg hd
theorem ex_C {K : PySem.W.Frag} {x : Str} (h : (XFa.exC x).ok K = true) : ExcC K (He.ga K x) := by
  simp only [XFa.ok, Bool.and_eq_true, decide_eq_true_eq] at h
  obtain ⟨h1, h2, h3, h4, h5, h6, h7, h8⟩ := h
  exact ⟨He.eqO_ok h1, He.eqO_ok h2, h3, h4, He.eqO_ok h5, He.eqO_ok h6, h7, h8⟩
theorem ex_exCs {K : PySem.W.Frag} {xs : List Str} (h : (XFa.exCs xs).ok K = true) : ∀ x ∈ xs, ExcC K (He.ga K x) := fun x hx => ex_C (x := x) (List.all_eq_true.mp h x hx)
theorem ex_kits {K : PySem.W.Frag} {xs ys : List Str} (h : (XFa.kits xs ys).ok K = true) : ∀ x ∈ xs, ∀ y ∈ ys, PySem.W.kitOne K (cls K x) (cls K y) = some (decide (x = y)) := fun x hx y hy => of_decide_eq_true (List.all_eq_true.mp (List.all_eq_true.mp h x hx) y hy)
theorem ex_exms {K : PySem.W.Frag} {xs : List Str} {y : Str} (h : (XFa.exms xs y).ok K = true) : ∀ x ∈ xs, PySem.W.exmOne K (cls K x) (cls K y) = some true := fun x hx => of_decide_eq_true (List.all_eq_true.mp h x hx)
theorem ex_kit {K : PySem.W.Frag} {x y : Str} {b : Bool} (h : (XFa.kit x y b).ok K = true) : PySem.W.kitOne K (cls K x) (cls K y) = some b := of_decide_eq_true h
theorem ex_kiT {K : PySem.W.Frag} {x : Str} {T : String} {b : Bool} (h : (XFa.kiT x T b).ok K = true) : PySem.W.kitOne K (cls K x) (.type T) = some b := of_decide_eq_true h
def obX (sel : (Addr → Option Obj) → List Addr) (fa : List He.Fa) (fn : List He.DefD) (ex : List XFa) (g : Addr → Option Obj) : He.AlD × Bool :=
  let K := He.frG g (sel g)
  (He.obsD fa fn K, ex.all fun e => e.ok K)
def hookX (sel : (Addr → Option Obj) → List Addr) (fa : List He.Fa) (fn : List He.DefD) (ex : List XFa) : PySem.W.Hook where
  α := He.AlD × Bool
  obs := fun s => obX sel fa fn ex s.heap.get?
  val := fun _ => (He.valD fn, true)
  says := fun _ h => ∃ K : PySem.W.Frag, K.In h ∧ He.SaysD fa fn K ∧ (ex.all fun e => e.ok K) = true
  of := fun _ _ e => ⟨_, He.frG_in, congrArg Prod.fst e, congrArg Prod.snd e⟩
  keeps := fun _ _ _ ⟨K, hK, c⟩ k => ⟨K, PySem.W.Frag.In.keeps hK k, c⟩
theorem obX_eq {sel : (Addr → Option Obj) → List Addr} {fa : List He.Fa} {fn : List He.DefD} {ex : List XFa} {g : Addr → Option Obj} {s : Shared} (h : ∀ a, g a = s.heap.get? a) : obX sel fa fn ex g = (hookX sel fa fn ex).obs s := by
  rw [show g = s.heap.get? from funext h] <;> rfl
theorem ex_at {ex : List XFa} {K : PySem.W.Frag} (h : (ex.all fun e => e.ok K) = true) (i : Nat) {e : XFa} (he : ex[i]? = some e := by rfl) : e.ok K = true := List.all_eq_true.mp h e (List.mem_of_getElem? he)
end TD

set_option maxHeartbeats 2000000
namespace TD
open PySem PySem.Spec PyProof.Rows L2
/-! ### text.index, list(range(n)) -/
def sindexD : DRm := fun x ds w Q => match x, ds with
  | .str a, [.str b] => ∃ i rest, Builtin.Str.occurrences a b 0 a.length 1 = i :: rest ∧ Q (.int (i : Nat)) w
  | _, _ => False
theorem tr_sindex {K : PySem.W.Frag} : TrRm K "str" (fun x xs H Q => ∃ a b i rest, x = .str a ∧ xs = [.str b] ∧ Builtin.Str.occurrences a b 0 a.length 1 = i :: rest ∧ Q (.int (i : Nat)) H) sindexD := by
  intro H P w x xs dx ds Q' Q rh rx rs h hq
  unfold sindexD at h
  split at h
  · obtain ⟨i, rest, ho, h⟩ := h
    cases rx
    cases rs with
    | cons r1 r2 =>
      cases r1
      cases r2
      exact ⟨_, _, i, rest, rfl, rfl, ho, hq _ w h _ H P rh.go (.int _)⟩
  · exact h.elim
def dListR (te : DE) : DE := fun S w Q => te S w fun x w1 => match x with
  | .int n => 0 ≤ n ∧ n ≤ 16777216 ∧ Q (.lst ((List.range n.toNat).map fun (i : Nat) => .int i)) w1
  | _ => False
theorem rg_rep {K : PySem.W.Frag} {P : Hp} : ∀ l : List Nat, RepL K P (l.map fun (i : Nat) => D.int i) (l.map fun (i : Nat) => V.int (0 + (i : Nat)))
  | [] => .nil
  | n :: r => .cons (by show Rep K P (.int n) (.int (0 + (n : Int))); rw [Int.zero_add]; exact .int _) (rg_rep r)
theorem qe_listR {X : Cx} {W : WX} {W' : DWX} {e : Expr} {te : DE} {p p2 pos pos2 : Pos} (hm : X.mg "list" = none) (hm2 : X.mg "range" = none) (he : QE X W W' e te) (hc : X.calm = true := by rfl) (hg : Gl X "list" := by rfl) (hg2 : Gl X "range" := by rfl)
    (na : starEach [e] X.env = (false, eval e X.env) :: starEach [] X.env := by rfl) (na2 : starEach [.Call (.Name "range" p2) [e] [] pos2] X.env = (false, eval (.Call (.Name "range" p2) [e] [] pos2) X.env) :: starEach [] X.env := by rfl) :
    QE X W W' (.Call (.Name "list" p) [.Call (.Name "range" p2) [e] [] pos2] [] pos) (dListR te) := PE.imp (pe_listRg hc hg hm (prg_1 hg2 hm2 he na) na2)
  fun σ H Q ⟨P, w, S, Q', rh, sl, h, hq, hx⟩ => ⟨P, w, S, _, rh, sl, h, fun d w1 h1 v H1 P1 g1 r1 => by
    cases r1 with
    | int n =>
      dsimp only at h1
      obtain ⟨h0, h2, h1⟩ := h1
      refine ⟨n, rfl, RgOk.of_le (Int.le_refl 0) h2 (by decide) h0, fun q hq' => ?_⟩
      have g := g1.rh.newP (o := .lst (rgV 0 n)) hq'
      refine hq _ w1 h1 _ _ _ (g1.trans g) (.lst upd_same ?_)
      unfold rgV
      rw [Int.sub_zero]
      exact rg_rep _
    | _ => exact h1.elim, hx⟩
end TD

set_option maxHeartbeats 2000000
namespace TD
open PySem PySem.Spec PyProof.Rows L2
/-! ### objects: fields, methods, making -/
def putD (f : Str) (v : D) : List (Str × D) → List (Str × D)
  | [] => [(f, v)]
  | (g, x) :: r => if g = f then (g, v) :: r else (g, x) :: putD f v r
theorem KVr.lookup {K : PySem.W.Frag} {P : Hp} {f : Str} : ∀ {l : List (Str × D)} {m : List (Str × V)}, KVr K P l m → (∀ d, l.lookup f = some d → ∃ v, m.lookup f = some v ∧ Rep K P d v) ∧ (l.lookup f = none → m.lookup f = none)
  | _, _, .nil => ⟨fun d h => by simp at h, fun _ => rfl⟩
  | (k, d0) :: l, (k', v0) :: m, .cons h r => by
    obtain ⟨i1, i2⟩ := KVr.lookup (f := f) r
    obtain ⟨e, rv⟩ := h
    dsimp only at e rv
    subst e
    by_cases hb : f = k
    · have hb' : (f == k) = true := beq_iff_eq.mpr hb
      simp only [List.lookup, hb']
      exact ⟨fun d h => by cases h; exact ⟨_, rfl, rv⟩, fun h => by cases h⟩
    · have hb' : (f == k) = false := beq_eq_false_iff_ne.mpr hb
      simp only [List.lookup, hb']
      exact ⟨i1, i2⟩
theorem KVr.putF {K : PySem.W.Frag} {P : Hp} {f : Str} {d : D} {v : V} (rv : Rep K P d v) : ∀ {l : List (Str × D)} {m : List (Str × V)}, KVr K P l m → KVr K P (putD f d l) (L2.putF f v m)
  | _, _, .nil => .cons ⟨rfl, rv⟩ .nil
  | (k, d0) :: l, (k', v0) :: m, .cons h r => by
    obtain ⟨e, r0⟩ := h
    dsimp only at e r0
    subst e
    rw [show putD f d ((k, d0) :: l) = (if k = f then (k, d) :: l else (k, d0) :: putD f d l) from rfl, show L2.putF f v ((k, v0) :: m) = (if k = f then (k, v) :: m else (k, v0) :: L2.putF f v m) from rfl]
    by_cases hk : k = f
    · rw [if_pos hk, if_pos hk]; exact .cons ⟨rfl, rv⟩ r
    · rw [if_neg hk, if_neg hk]; exact .cons ⟨rfl, r0⟩ (KVr.putF rv r)
theorem KVr.length {K : PySem.W.Frag} {P : Hp} {κ : Type} : ∀ {l : List (κ × D)} {m : List (κ × V)}, KVr K P l m → m.length = l.length
  | _, _, .nil => rfl
  | _, _, .cons _ r => by rw [List.length_cons, List.length_cons, KVr.length r]
/-- the instance at p of the class C -/
def atO (w : Wd) (C : Addr) (d : D) (k : Addr → List (Str × D) → Prop) : Prop := match d with
  | .ref p => match w p with
    | some (.ins C' fs) => C' = C ∧ k p fs
    | _ => False
  | _ => False
theorem atO_ok {K : PySem.W.Frag} {H P : Hp} {w : Wd} {C : Addr} {d : D} {v : V} {k : Addr → List (Str × D) → Prop} (rh : RH K H P w) (r : Rep K P d v) (h : atO w C d k) :
    ∃ p fs gs dx, d = .ref p ∧ v = .ref p ∧ w p = some (.ins C fs) ∧ H p = some (.ins C dx gs) ∧ KVr K P fs gs ∧ P dx = some (.own p) ∧ k p fs := by
  unfold atO at h
  split at h
  · rename_i p
    split at h
    · rename_i C' fs hw
      obtain ⟨rfl, h⟩ := h
      obtain ⟨_, ho, h1, h2⟩ := rh.own p _ hw
      obtain ⟨dx, gs, rfl, kv, ow⟩ := h2
      cases r
      exact ⟨p, fs, gs, dx, rfl, rfl, hw, h1, kv, ow, h⟩
    · exact h.elim
  · exact h.elim
theorem atO_w {w : Wd} {C : Addr} {p : Addr} {fs : List (Str × D)} {k : Addr → List (Str × D) → Prop} (h : w p = some (.ins C fs)) : atO w C (.ref p) k = k p fs := by
  unfold atO; simp only [h, true_and]
def getF (f : Str) (fs : List (Str × D)) (k : D → Prop) : Prop := match fs.lookup f with
  | some d => k d
  | none => False
def dFld (C : Addr) (f : Str) (te : DE) : DE := fun S w Q => te S w fun d w1 => atO w1 C d fun _ fs => getF f fs fun x => Q x w1
def dFldS (C : Addr) (f : Str) (to tv : DE) : DS := fun D S w => tv S w fun y w1 => to S w1 fun d w2 => atO w2 C d fun p fs => fs.length < 100 ∧ D.nx S (put w2 p (.ins C (putD f y fs)))
/-- of a class's text: enough for its fields -/
structure ClF (K : PySem.W.Frag) (C : Addr) (fs : List Str) : Prop where
  c : Cls K C
  n : ∀ f ∈ fs, NoAttr K C f
section
variable {X : Cx} {W : WX} {W' : DWX} {e o value : Expr} {te to tv : DE} {pos pos' apos p : Pos} {C : Addr} {f m : Str} {fl : List Str}
theorem qe_fld (c : ClF X.K C fl) (he : QE X W W' e te) (hf : f ∈ fl := by decide) (hb : attributeBase e f X.env (eval e X.env) = eval e X.env := by rfl) : QE X W W' (.Attribute e f pos) (dFld C f te) := PE.imp (pe_fld he hb)
  fun σ H Q ⟨P, w, S, Q', rh, sl, h, hq, hx⟩ => ⟨P, w, S, _, rh, sl, h, fun d w1 h1 v H1 P1 g1 r1 => by
    obtain ⟨q, fs, gs, dx, rfl, rfl, hw, hH, kv, ow, hk⟩ := atO_ok g1.rh r1 h1
    unfold getF at hk
    split at hk
    · rename_i x hl
      obtain ⟨u, hu, ru⟩ := (KVr.lookup (f := f) kv).1 x hl
      exact ⟨q, C, dx, gs, u, rfl, hH, c.c, c.n f hf, hu, hq x w1 hk u H1 P1 g1 ru⟩
    · exact hk.elim, hx⟩
theorem qs_fld (c : ClF X.K C fl) (ho : QE X W W' o to) (hv : QE X W W' value tv) (hf : f ∈ fl := by decide) (hs : swapsWith value (some (.Attribute o f pos')) pos.line X.env = pure false := by rfl) : QS X W W' (.Assign [.Attribute o f pos'] value pos) (dFldS C f to tv) := PS.imp (ps_fld ho hv hs)
  fun D σ H ⟨P, w, S, D', rh, sl, h, hd, hx⟩ => ⟨P, w, S, _, rh, sl, h, fun y w1 h1 vy H1 P1 g1 r1 => ⟨P1, w1, S, _, g1.rh, sl.mono g1.ex, h1, fun d w2 h2 v H2 P2 g2 r2 => by
    obtain ⟨q, fs, gs, dx, rfl, rfl, hw, hH, kv, ow, hk⟩ := atO_ok g2.rh r2 h2
    refine ⟨q, C, dx, gs, rfl, hH, c.c, c.n f hf, by rw [KVr.length kv]; omega, ?_⟩
    have g3 := g2.rh.setW (m := .ins C (putD f y fs)) (o := .ins C dx (L2.putF f vy gs)) hw ⟨dx, _, rfl, KVr.putF (r1.mono g2.ex) kv, ow⟩
    have g := (g1.trans g2).trans g3
    exact hd.nx S _ hk.2 σ _ _ g (sl.mono g.ex), hx.go g1⟩, hx⟩
/-- o.m(..) -/
def dMeth (C : Addr) (m : Str) (sp : DSp) (W' : DWX) (to : DE) (t : DA) : DE := fun S w Q => to S w fun d w1 => atO w1 C d fun _ fs => fs.lookup m = none ∧ t S w1 fun ds w2 => sp (d :: ds) w2 Q (fun x y w3 => W' x y S w3)
/-- C(..) -/
def dMake (C : Addr) (sp : DSp) (W' : DWX) (t : DA) : DE := fun S w Q => t S w fun ds w1 => ∀ p, w1 p = none → sp (.ref p :: ds) (put w1 p (.ins C [])) (fun d w2 => d = .non ∧ Q (.ref p) w2) (fun x y w3 => W' x y S w3)
/-- an own method -/
structure OwnM (P : Program) (w : World) (K : PySem.W.Frag) (mg : Str → Option Value) (base : Heap) (C : Addr) (m : Str) (k : Nat) (ps : List Str) (sp : DSp) : Prop where
  ex : ∃ f fd, FnOk P w K mg base (L2N.CX P w) k f fd ps (lift K sp) ∧ Meth K C m f ∧ Binds K fd ps []
  c : Cls K C
/-- an own class and its __init__ -/
structure OwnC (P : Program) (w : World) (K : PySem.W.Frag) (mg : Str → Option Value) (base : Heap) (x : Str) (k : Nat) (ps : List Str) (sp : DSp) : Prop where
  ex : ∃ f fd, FnOk P w K mg base (L2N.CX P w) k f fd ps (lift K sp) ∧ Mk K (He.ga K x) f ∧ Binds K fd ps []
  g : mg x = some (.ref (He.ga K x))
variable {es : List Expr} {t : DA} {sp : DSp} {k j : Nat} {ps : List Str} {x : Str}
theorem qe_meth {pl : Sem Bool} (G : OwnM X.prog X.w X.K X.mg X.base C m k ps sp) (hr : Room j X.A) (tk : L2N.Takes X W) (ho : QE X W W' o to) (ha : QA X W W' (e :: es) t) (hj : k ≤ j := by first | decide | omega)
    (hst : starEach (e :: es) X.env = (false, eval e X.env) :: starEach es X.env := by rfl) (hpl : (backTo pos (starEach es X.env)).any (·.1) = false := by rfl)
    (ht : eval (.Call (.Attribute o m apos) (e :: es) [] pos) X.env = (do
      let ov ← eval o X.env
      standAt apos.atName
      let (f, first) ← holding [ov] (getMethod ov m pl)
      callWith pos f first (backTo pos (starEach (e :: es) X.env)) (backToKw pos (keywordEach [] X.env))) := by rfl) :
    QE X W W' (.Call (.Attribute o m apos) (e :: es) [] pos) (dMeth C m sp W' to t) := by
  obtain ⟨⟨f, fd, F, hm, hb⟩, c⟩ := G
  refine ⟨fun pins s σ H Q I ⟨P, w, S, Q', rh, sl, h, hq, hx⟩ => ?_⟩
  refine PySem.W.methodCall_KW (pl := pl) (thn (ho.run pins s σ H (fun v H1 => ∃ a dx fs, v = .ref a ∧ H1 a = some (.ins C dx fs) ∧ fs.lookup m = none ∧ liftA X.K W W' t σ H1 fun vs H2 => lift X.K sp (v :: vs) H2 Q (L2.WE W σ)) I ?_) fun u s1 ⟨x, H1, I1, rx, a, dx, fs, ex, ea, l, q⟩ => ?_) ht
  · refine ⟨P, w, S, _, rh, sl, h, fun d w1 h1 v H1 P1 g1 r1 => ?_, hx⟩
    obtain ⟨q, fs, gs, dx, rfl, rfl, hw, hH, kv, ow, hl, hk⟩ := atO_ok g1.rh r1 h1
    refine ⟨q, dx, gs, rfl, hH, (KVr.lookup (f := m) kv).2 hl, P1, w1, S, _, g1.rh, sl.mono g1.ex, hk, fun ds w2 h2 vs H2 P2 g2 r2 => ?_, hx.go g1⟩
    exact call_imp (g1.trans g2) sl hq hx (.cons (r1.mono g2.ex) r2) h2
  · subst ex
    obtain rfl : u = Value.ref a := rx
    refine getmeth_ok I1 ea c hm l ?_
    refine PySem.W.callWith_K (first := [.ref a]) (h₀ := X.base) I.ok.mod.kin hm.kp (thn (ha.run pos pins s1 σ H1 _ I1 q) fun us s2 ⟨vs, H2, I2, r, q2⟩ => ⟨I2.kIn, ?_⟩) hst hpl
    exact run_fnS (us := .ref a :: us) (vs := .ref a :: vs) (E := L2.WE W) F (hr.mono hj) hb (L2N.passAt tk σ) I2 (.cons rfl r) q2
theorem qe_meth0 {pl : Sem Bool} (G : OwnM X.prog X.w X.K X.mg X.base C m k ps sp) (hr : Room j X.A) (tk : L2N.Takes X W) (ho : QE X W W' o to) (hj : k ≤ j := by first | decide | omega)
    (ht : eval (.Call (.Attribute o m apos) [] [] pos) X.env = (do
      let ov ← eval o X.env
      standAt apos.atName
      let (f, first) ← holding [ov] (getMethod ov m pl)
      callWith pos f first (backTo pos (starEach [] X.env)) (backToKw pos (keywordEach [] X.env))) := by rfl) :
    QE X W W' (.Call (.Attribute o m apos) [] [] pos) (dMeth C m sp W' to dNil) := by
  obtain ⟨⟨f, fd, F, hm, hb⟩, c⟩ := G
  refine ⟨fun pins s σ H Q I ⟨P, w, S, Q', rh, sl, h, hq, hx⟩ => ?_⟩
  refine PySem.W.methodCall_KW (pl := pl) (thn (ho.run pins s σ H (fun v H1 => ∃ a dx fs, v = .ref a ∧ H1 a = some (.ins C dx fs) ∧ fs.lookup m = none ∧ lift X.K sp [v] H1 Q (L2.WE W σ)) I ?_) fun u s1 ⟨x, H1, I1, rx, a, dx, fs, ex, ea, l, q⟩ => ?_) ht
  · refine ⟨P, w, S, _, rh, sl, h, fun d w1 h1 v H1 P1 g1 r1 => ?_, hx⟩
    obtain ⟨q, fs, gs, dx, rfl, rfl, hw, hH, kv, ow, hl, hk⟩ := atO_ok g1.rh r1 h1
    exact ⟨q, dx, gs, rfl, hH, (KVr.lookup (f := m) kv).2 hl, call_imp g1 sl hq hx (.cons r1 .nil) hk⟩
  · subst ex
    obtain rfl : u = Value.ref a := rx
    refine getmeth_ok I1 ea c hm l ?_
    exact PySem.W.callWith_K0 (first := [.ref a]) I1.kIn hm.kp (run_fnS (us := [.ref a]) (vs := [.ref a]) (E := L2.WE W) F (hr.mono hj) hb (L2N.passAt tk σ) I1 (.cons rfl .nil) q)
theorem run_makeS {CX : CXT} {fa : Addr} {fd : FuncData} {spv : Sp} {E : St → XK} {pins : List (Addr × Obj)} {σ : St} {H : Hp} {s : Shared} {Q : VK} {us : List Value} {vs : List V} (M : Mk X.K C fa) (F : FnOk X.prog X.w X.K X.mg X.base CX k fa fd ps spv) (hr : Room (k + 1) X.A) (hb : Binds X.K fd ps [])
    (hx : PassesAt CX X σ (E σ)) (I : Inv X pins σ H s) (r : Vals vs us)
    (h : ∀ x dx, H x = none → H dx = none → dx ≠ x → spv (.ref x :: vs) (upd (upd H dx (.own x)) x (.ins C dx [])) (fun v H2 => v = .non ∧ Q (.ref x) H2) (E σ)) :
    wpAny (model X.prog X.w) X.A (call (.ref C) us) (EP X pins σ Q) X.xe s := by
  have hq := h (s.heap.objs.size + 1) s.heap.objs.size (I.hok.fresh (Nat.le_succ _)) (I.hok.fresh (Nat.le_refl _)) (Nat.ne_of_lt (Nat.lt_succ_self _))
  have I2 := Inv.made (C := C) I
  have r2 : Vals (V.ref (s.heap.objs.size + 1) :: vs) (Value.ref (s.heap.objs.size + 1) :: us) := .cons rfl r
  have hl : (Value.ref (s.heap.objs.size + 1) :: us).length = ps.length := by
    rw [← r2.length]; exact F.len _ _ _ _ hq
  have b := hb { s with heap := (s.heap.push PySem.W.emptyDict).push (PySem.W.instObj C s.heap.objs.size) } (Value.ref (s.heap.objs.size + 1) :: us) I2.kIn (by rw [List.append_nil]; exact hl)
  rw [List.append_nil] at b
  refine wpAny_call (make_map (f := fa) I.kIn M.makes M.init (beq_iff_eq.mp M.fn) (codeAny_mono (F.run _ X.stack _ _ ⟨Value.ref (s.heap.objs.size + 1) :: us, []⟩ (Value.ref (s.heap.objs.size + 1) :: us) _ _ (E σ) (hr.make C us [])
    (I2.env0.make C us []) b r2 hq) fun r s' hq' => ?_))
  cases r with
  | error e => exact hx pins _ _ e s' I2 hq'
  | ok fl =>
    cases fl with
    | ret u =>
      obtain ⟨v, H', I3, rv, ev, q3⟩ := I2.after hq'
      subst ev
      exact ⟨rv, ⟨V.ref (s.heap.objs.size + 1), H', I3, rfl, q3⟩⟩
    | next => exact False.elim hq'
    | brk => exact False.elim hq'
    | cont => exact False.elim hq'
theorem make_imp {σ : St} {H P : Hp} {w : Wd} {S : DSt} {Q' : DKt} {Q : VK} {ds : List D} {vs : List V} {H1 P1 : Hp} {w1 : Wd} (g : Go X.K H P w H1 P1 w1) (sl : Slots X.K P S σ) (hq : RetOk X.K H P w Q' Q) (hx : WOk X.K H P w W' W) (r : RepL X.K P1 ds vs)
    (h : ∀ p, w1 p = none → sp (.ref p :: ds) (put w1 p (.ins C [])) (fun d w2 => d = .non ∧ Q' (.ref p) w2) (fun x y w3 => W' x y S w3)) :
    ∀ x dx, H1 x = none → H1 dx = none → dx ≠ x → lift X.K sp (.ref x :: vs) (upd (upd H1 dx (.own x)) x (.ins C dx [])) (fun v H2 => v = .non ∧ Q (.ref x) H2) (L2.WE W σ) := by
  intro x dx hx1 hd1 ne
  have g2 := g.rh.newP (p := dx) (o := .own x) hd1
  have hx2 : (upd H1 dx (.own x)) x = none := by rw [upd_ne (Ne.symm ne)]; exact hx1
  have g3 := g2.rh.newW (p := x) (o := .ins C dx []) (n := .ins C []) hx2 ⟨dx, [], rfl, .nil, upd_same⟩
  have gg := (g.trans g2).trans g3
  refine ⟨_, _, .ref x :: ds, fun d w2 => d = .non ∧ Q' (.ref x) w2, _, g3.rh, .cons (.ref x) (r.mono (g2.ex.trans g3.ex)), h x (g.rh.free hx1).2, ?_, ?_⟩
  · rintro d w2 ⟨rfl, q⟩ v H2 P2 g4 rv
    cases rv
    exact ⟨rfl, hq _ w2 q _ H2 P2 (gg.trans g4) (.ref x)⟩
  · intro c y w2 q dd H2 P2 g4 xr
    exact hx c y S w2 q dd σ H2 P2 (gg.trans g4) (sl.mono (gg.trans g4).ex) xr
theorem qe_make (G : OwnC X.prog X.w X.K X.mg X.base x k ps sp) (hr : Room j X.A) (tk : L2N.Takes X W) (ha : QA X W W' (e :: es) t) (hj : k + 1 ≤ j := by first | decide | omega) (hg : Gl X x := by rfl) (hdb : (x == ("__debug__" : Str)) = false := by decide) (he : starEach (e :: es) X.env = (false, eval e X.env) :: starEach es X.env := by rfl) (hpl : (backTo pos (starEach es X.env)).any (·.1) = false := by rfl) :
    QE X W W' (.Call (.Name x p) (e :: es) [] pos) (dMake (He.ga X.K x) sp W' t) := by
  obtain ⟨⟨f, fd, F, M, hb⟩, hm⟩ := G
  refine ⟨fun pins s σ H Q I ⟨P, w, S, Q', rh, sl, h, hq, hx⟩ => ?_⟩
  refine wpAny_Call_Name_kw (ld_glob I hg hm ?_ hdb)
  refine PySem.W.callWith_K (h₀ := X.base) I.ok.mod.kin M.kp (thn (ha.run pos pins s σ H (fun vs H1 => ∀ x' dx, H1 x' = none → H1 dx = none → dx ≠ x' → lift X.K sp (.ref x' :: vs) (upd (upd H1 dx (.own x')) x' (.ins (He.ga X.K x) dx [])) (fun v H2 => v = .non ∧ Q (.ref x') H2) (L2.WE W σ)) I ?_) fun us s1 ⟨vs, H1, I1, r, q⟩ => ⟨I1.kIn, ?_⟩) he hpl
  · exact ⟨P, w, S, _, rh, sl, h, fun ds w1 h1 vs H1 P1 g1 r1 => make_imp g1 sl hq hx r1 h1, hx⟩
  · exact run_makeS (E := L2.WE W) M F (hr.mono hj) hb (L2N.passAt tk σ) I1 r q
theorem qe_make0 (G : OwnC X.prog X.w X.K X.mg X.base x k ps sp) (hr : Room j X.A) (tk : L2N.Takes X W) (hj : k + 1 ≤ j := by first | decide | omega) (hg : Gl X x := by rfl) (hdb : (x == ("__debug__" : Str)) = false := by decide) :
    QE X W W' (.Call (.Name x p) [] [] pos) (dMake (He.ga X.K x) sp W' dNil) := by
  obtain ⟨⟨f, fd, F, M, hb⟩, hm⟩ := G
  refine ⟨fun pins s σ H Q I ⟨P, w, S, Q', rh, sl, h, hq, hx⟩ => ?_⟩
  refine wpAny_Call_Name_kw (ld_glob I hg hm ?_ hdb)
  exact PySem.W.callWith_K0 I.kIn M.kp (run_makeS (us := []) (E := L2.WE W) M F (hr.mono hj) hb (L2N.passAt tk σ) I .nil (make_imp rh.go sl hq hx .nil h))
end
end TD

set_option maxHeartbeats 2000000
namespace TD
open PySem PySem.Spec PyProof.Rows L2
/-! ### dicts -/
section
variable {κ : Type} [DecidableEq κ]
def setK (kvs : List (κ × D)) (k : κ) (v : D) : List (κ × D) :=
  if (kvs.any fun kv => decide (kv.1 = k)) = true then kvs.map (fun kv => if kv.1 = k then (kv.1, v) else kv) else kvs ++ [(k, v)]
def ridK (kvs : List (κ × D)) (k : κ) : List (κ × D) := kvs.filter fun kv => decide (kv.1 ≠ k)
theorem valD_nil {k : κ} : valD ([] : List (κ × D)) k = none := rfl
theorem valD_pos {p : κ × D} {r : List (κ × D)} {k : κ} (e : p.1 = k) : valD (p :: r) k = some p.2 := by simp [valD, List.find?_cons, e]
theorem valD_neg {p : κ × D} {r : List (κ × D)} {k : κ} (e : ¬ p.1 = k) : valD (p :: r) k = valD r k := by simp [valD, List.find?_cons, e]
variable {K : PySem.W.Frag} {P : Hp}
def RepO (K : PySem.W.Frag) (P : Hp) : Option D → Option V → Prop
  | none, none => True
  | some d, some v => Rep K P d v
  | _, _ => False
theorem KVr.valO {k : κ} : ∀ {l : List (κ × D)} {m : List (κ × V)}, KVr K P l m → RepO K P (valD l k) (valV m k)
  | _, _, .nil => trivial
  | (k1, d0) :: l, (k2, v0) :: m, .cons h r => by
    obtain ⟨e, r0⟩ := h
    dsimp only at e r0
    subst e
    by_cases hk : k1 = k
    · rw [valD_pos (show (k1, d0).1 = k from hk), valV_pos (show (k1, v0).1 = k from hk)]; exact r0
    · rw [valD_neg (show ¬ (k1, d0).1 = k from hk), valV_neg (show ¬ (k1, v0).1 = k from hk)]; exact KVr.valO r
theorem KVr.any {k : κ} : ∀ {l : List (κ × D)} {m : List (κ × V)}, KVr K P l m → (m.any fun kv => decide (kv.1 = k)) = (l.any fun kv => decide (kv.1 = k))
  | _, _, .nil => rfl
  | _ :: _, _ :: _, .cons h r => by rw [List.any_cons, List.any_cons, KVr.any r, h.1]
theorem KVr.upd {k : κ} {d : D} {v : V} (rv : Rep K P d v) : ∀ {l : List (κ × D)} {m : List (κ × V)}, KVr K P l m → KVr K P (l.map fun kv => if kv.1 = k then (kv.1, d) else kv) (m.map fun kv => if kv.1 = k then (kv.1, v) else kv)
  | _, _, .nil => .nil
  | (k1, d0) :: l, (k2, v0) :: m, .cons h r => by
    obtain ⟨e, r0⟩ := h
    dsimp only at e r0
    subst e
    rw [List.map_cons, List.map_cons]
    dsimp only
    by_cases hk : k1 = k
    · rw [if_pos hk, if_pos hk]; exact .cons ⟨rfl, rv⟩ (KVr.upd rv r)
    · rw [if_neg hk, if_neg hk]; exact .cons ⟨rfl, r0⟩ (KVr.upd rv r)
theorem KVr.app {l l2 : List (κ × D)} {m m2 : List (κ × V)} (h : KVr K P l m) (h2 : KVr K P l2 m2) : KVr K P (l ++ l2) (m ++ m2) := by
  induction h with
  | nil => exact h2
  | cons a _ ih => exact .cons a ih
theorem KVr.set {k : κ} {d : D} {v : V} (rv : Rep K P d v) {l : List (κ × D)} {m : List (κ × V)} (h : KVr K P l m) : KVr K P (setK l k d) (putK m k v) := by
  unfold setK putK
  rw [KVr.any h]
  split
  · exact KVr.upd rv h
  · exact KVr.app h (.cons ⟨rfl, rv⟩ .nil)
theorem KVr.rid {k : κ} : ∀ {l : List (κ × D)} {m : List (κ × V)}, KVr K P l m → KVr K P (ridK l k) (dropK m k)
  | _, _, .nil => .nil
  | (k1, d0) :: l, (k2, v0) :: m, .cons h r => by
    obtain ⟨e, r0⟩ := h
    dsimp only at e r0
    subst e
    unfold ridK dropK
    rw [List.filter_cons, List.filter_cons]
    dsimp only
    have ih := KVr.rid (k := k) r
    unfold ridK dropK at ih
    split
    · exact .cons ⟨rfl, r0⟩ ih
    · exact ih
theorem KVr.getI {l : List (κ × D)} {m : List (κ × V)} (h : KVr K P l m) : ∀ {i : Nat} {p : κ × V}, m[i]? = some p → ∃ d, l[i]? = some (p.1, d) ∧ Rep K P d p.2 := by
  induction h with
  | nil => intro i p e; simp at e
  | cons a _ ih =>
    intro i p e
    cases i with
    | zero => simp at e; subst e; exact ⟨_, by simp [← a.1], a.2⟩
    | succ i => exact ih (by simpa using e)
end
def kD : L2.Key → D
  | .inl i => .int i
  | .inr x => .str x
theorem kD_rep {K : PySem.W.Frag} {P : Hp} : ∀ k : L2.Key, Rep K P (kD k) (kV k)
  | .inl i => .int i
  | .inr x => .str x
theorem keyD_kD : ∀ k : L2.Key, keyD (kD k) = some k
  | .inl _ => rfl
  | .inr _ => rfl
/-- what the dict x holds at y -/
def dAt (w : Wd) (x y : D) (k : Option D → Prop) : Prop := match x with
  | .ref p => match w p with
    | some (.dK kvs) => match keyD y with
      | some q => k (valD kvs q)
      | none => False
    | some (.lkK _ _ kvs) => match keyD y with
      | some q => k (valD kvs q)
      | none => False
    | some (.dT kvs) => match y with
      | .tup ds => match keysD ds with
        | some q => k (valD kvs q)
        | none => False
      | _ => False
    | some (.lkT _ _ kvs) => match y with
      | .tup ds => match keysD ds with
        | some q => k (valD kvs q)
        | none => False
      | _ => False
    | _ => False
  | _ => False
theorem dAt_ok {K : PySem.W.Frag} {H P : Hp} {w : Wd} {x y : D} {u v : V} {k : Option D → Prop} (rh : RH K H P w) (rx : Rep K P x u) (ry : Rep K P y v) (h : dAt w x y k) : ∃ a o r, u = .ref a ∧ DGet H a v r ∧ RepO K P o r ∧ k o := by
  unfold dAt at h
  split at h
  · rename_i p
    cases rx
    split at h
    · rename_i kvs hw
      obtain ⟨_, ho, h1, kws, rfl, kv⟩ := rh.own p _ hw
      split at h
      · rename_i q hq
        have e := keyD_ok ry hq
        subst e
        exact ⟨p, _, _, rfl, .inl ⟨kws, q, .inl h1, rfl, rfl⟩, KVr.valO kv, h⟩
      · exact h.elim
    · rename_i o u kvs hw
      obtain ⟨_, ho, h1, rfl, kws, rfl, kv⟩ := rh.own p _ hw
      split at h
      · rename_i q hq
        have e := keyD_ok ry hq
        subst e
        exact ⟨p, _, _, rfl, .inl ⟨kws, q, .inr ⟨_, h1⟩, rfl, rfl⟩, KVr.valO kv, h⟩
      · exact h.elim
    · rename_i kvs hw
      obtain ⟨_, ho, h1, kws, rfl, kv⟩ := rh.own p _ hw
      split at h
      · cases ry with
        | tup q r =>
          split at h
          · rename_i qs hq
            have e := keysD_ok r hq
            subst e
            exact ⟨p, _, _, rfl, .inr ⟨kws, qs, _, .inl h1, rfl, rh.per _ _ q, rfl⟩, KVr.valO kv, h⟩
          · exact h.elim
      · exact h.elim
    · rename_i o u kvs hw
      obtain ⟨_, ho, h1, rfl, kws, rfl, kv⟩ := rh.own p _ hw
      split at h
      · cases ry with
        | tup q r =>
          split at h
          · rename_i qs hq
            have e := keysD_ok r hq
            subst e
            exact ⟨p, _, _, rfl, .inr ⟨kws, qs, _, .inr ⟨_, h1⟩, rfl, rh.per _ _ q, rfl⟩, KVr.valO kv, h⟩
          · exact h.elim
      · exact h.elim
    · exact h.elim
  · exact h.elim
theorem dAt_k {w : Wd} {p : Addr} {kvs : List (L2.Key × D)} {y : D} {q : L2.Key} {k : Option D → Prop} (h : w p = some (.dK kvs)) (hq : keyD y = some q) : dAt w (.ref p) y k = k (valD kvs q) := by
  unfold dAt; simp only [h, hq]
theorem dAt_t {w : Wd} {p : Addr} {kvs : List (List L2.Key × D)} {ds : List D} {q : List L2.Key} {k : Option D → Prop} (h : w p = some (.dT kvs)) (hq : keysD ds = some q) : dAt w (.ref p) (.tup ds) k = k (valD kvs q) := by
  unfold dAt; simp only [h, hq]
theorem dAt_lk {w : Wd} {p : Addr} {o : Obj} {u : HO} {kvs : List (L2.Key × D)} {y : D} {q : L2.Key} {k : Option D → Prop} (h : w p = some (.lkK o u kvs)) (hq : keyD y = some q) : dAt w (.ref p) y k = k (valD kvs q) := by
  unfold dAt; simp only [h, hq]
theorem RepO.some_of {K : PySem.W.Frag} {P : Hp} {d : D} {r : Option V} (h : RepO K P (some d) r) : ∃ v, r = some v ∧ Rep K P d v := by
  cases r with
  | none => exact h.elim
  | some v => exact ⟨v, rfl, h⟩
theorem RepO.isSome {K : PySem.W.Frag} {P : Hp} {o : Option D} {r : Option V} (h : RepO K P o r) : r.isSome = o.isSome := by
  cases o <;> cases r <;> first | rfl | exact h.elim
theorem RepO.getD {K : PySem.W.Frag} {P : Hp} {o : Option D} {r : Option V} {x : D} {v : V} (h : RepO K P o r) (hx : Rep K P x v) : Rep K P (o.getD x) (r.getD v) := by
  cases o <;> cases r <;> first | exact hx | exact h | exact h.elim
section
variable {X : Cx} {W : WX} {W' : DWX} {o i e value a b : Expr} {to ti te tv ta tb : DE} {pos pos' apos p cpos : Pos} {j : Nat}
/-- d[y] = v -/
def dPutAt (w : Wd) (x y v : D) (k : Wd → Prop) : Prop := match x with
  | .ref p => match w p with
    | some (.dK kvs) => match keyD y with
      | some q => kvs.length < 100000 ∧ k (put w p (.dK (setK kvs q v)))
      | none => False
    | some (.dT kvs) => match y with
      | .tup ds => match keysD ds with
        | some q => kvs.length < 100000 ∧ k (put w p (.dT (setK kvs q v)))
        | none => False
      | _ => False
    | _ => False
  | _ => False
theorem dPutAt_ok {K : PySem.W.Frag} {H P : Hp} {w : Wd} {x y z : D} {u v t : V} {k : Wd → Prop} (rh : RH K H P w) (rx : Rep K P x u) (ry : Rep K P y v) (rz : Rep K P z t) (h : dPutAt w x y z k) : ∃ a H4 w4, u = .ref a ∧ DPut H a v t H4 ∧ Go K H P w H4 P w4 ∧ k w4 := by
  unfold dPutAt at h
  split at h
  · rename_i p
    cases rx
    split at h
    · rename_i kvs hw
      obtain ⟨_, ho, h1, kws, rfl, kv⟩ := rh.own p _ hw
      split at h
      · rename_i q hq
        have e := keyD_ok ry hq
        subst e
        exact ⟨p, _, _, rfl, .inl ⟨kws, q, h1, rfl, by rw [KVr.length kv, sizeLine_eq]; omega, rfl⟩, rh.setW (m := .dK (setK kvs q z)) hw ⟨_, rfl, KVr.set rz kv⟩, h.2⟩
      · exact h.elim
    · rename_i kvs hw
      obtain ⟨_, ho, h1, kws, rfl, kv⟩ := rh.own p _ hw
      split at h
      · cases ry with
        | tup q r =>
          split at h
          · rename_i qs hq
            have e := keysD_ok r hq
            subst e
            exact ⟨p, _, _, rfl, .inr ⟨kws, qs, _, h1, rfl, rh.per _ _ q, by rw [KVr.length kv, sizeLine_eq]; omega, rfl⟩, rh.setW (m := .dT (setK kvs qs z)) hw ⟨_, rfl, KVr.set rz kv⟩, h.2⟩
          · exact h.elim
      · exact h.elim
    · exact h.elim
  · exact h.elim
theorem dPutAt_k {w : Wd} {p : Addr} {kvs : List (L2.Key × D)} {y v : D} {q : L2.Key} {k : Wd → Prop} (h : w p = some (.dK kvs)) (hq : keyD y = some q) : dPutAt w (.ref p) y v k = (kvs.length < 100000 ∧ k (put w p (.dK (setK kvs q v)))) := by
  unfold dPutAt; simp only [h, hq]
theorem dPutAt_t {w : Wd} {p : Addr} {kvs : List (List L2.Key × D)} {v : D} {ds : List D} {q : List L2.Key} {k : Wd → Prop} (h : w p = some (.dT kvs)) (hq : keysD ds = some q) : dPutAt w (.ref p) (.tup ds) v k = (kvs.length < 100000 ∧ k (put w p (.dT (setK kvs q v)))) := by
  unfold dPutAt; simp only [h, hq]
def dSetK (tv to ti : DE) : DS := fun D S w => tv S w fun v w1 => to S w1 fun x w2 => ti S w2 fun y w3 => dPutAt w3 x y v fun w4 => D.nx S w4
theorem qs_dput (hr : Room j X.A) (hv : QE X W W' value tv) (ho : QE X W W' o to) (hi : QE X W W' i ti) (hs : swapsWith value (some (.Subscript o i pos')) pos.line X.env = pure false := by rfl) : QS X W W' (.Assign [.Subscript o i pos'] value pos) (dSetK tv to ti) := PS.imp (ps_dput (by have := hr.units; omega) ho hi hv hs)
  fun D σ H ⟨P, w, S, D', rh, sl, h, hd, hx⟩ => ⟨P, w, S, _, rh, sl, h, fun z w1 h1 t H1 P1 g1 r1 => ⟨P1, w1, S, _, g1.rh, sl.mono g1.ex, h1, fun x w2 h2 u H2 P2 g2 r2 => ⟨P2, w2, S, _, g2.rh, sl.mono (g1.trans g2).ex, h2, fun y w3 h3 v H3 P3 g3 r3 => by
    obtain ⟨c, H4, w4, rfl, dp, g4, hk⟩ := dPutAt_ok g3.rh (r2.mono g3.ex) r3 (r1.mono (g2.trans g3).ex) h3
    have g := ((g1.trans g2).trans g3).trans g4
    exact ⟨c, H4, rfl, dp, hd.nx S w4 hk σ H4 P3 g (sl.mono g.ex)⟩, hx.go (g1.trans g2)⟩, hx.go g1⟩, hx⟩
def isDc (w : Wd) (x : D) : Prop := match x with
  | .ref p => match w p with
    | some (.dK _) => True
    | some (.dT _) => True
    | _ => False
  | _ => False
theorem isDc_ok {K : PySem.W.Frag} {H P : Hp} {w : Wd} {x : D} {u : V} (rh : RH K H P w) (rx : Rep K P x u) (h : isDc w x) : ∃ a, u = .ref a ∧ IsD H a := by
  unfold isDc at h
  split at h
  · rename_i p
    cases rx
    split at h
    · rename_i kvs hw
      obtain ⟨_, ho, h1, kws, rfl, kv⟩ := rh.own p _ hw
      exact ⟨p, rfl, .inl ⟨_, .inl h1⟩⟩
    · rename_i kvs hw
      obtain ⟨_, ho, h1, kws, rfl, kv⟩ := rh.own p _ hw
      exact ⟨p, rfl, .inr ⟨_, .inl h1⟩⟩
    · exact h.elim
  · exact h.elim
theorem isDc_k {w : Wd} {p : Addr} {kvs : List (L2.Key × D)} (h : w p = some (.dK kvs)) : isDc w (.ref p) := by unfold isDc; simp only [h]
theorem isDc_t {w : Wd} {p : Addr} {kvs : List (List L2.Key × D)} (h : w p = some (.dT kvs)) : isDc w (.ref p) := by unfold isDc; simp only [h]
/-- d.get(k) -/
def dGet1 (to ti : DE) : DE := fun S w Q => to S w fun x w1 => isDc w1 x ∧ ti S w1 fun y w2 => dAt w2 x y fun o => Q (o.getD .non) w2
theorem qe_dget1 (hr : Room j X.A) (ho : QE X W W' o to) (hi : QE X W W' e te) (m : M1 X o "get" apos e cpos := by exact ⟨rfl, rfl, rfl, rfl⟩) : QE X W W' (.Call (.Attribute o "get" apos) [e] [] cpos) (dGet1 to te) := PE.imp (pe_dget1 (by have := hr.units; omega) ho hi m)
  fun σ H Q ⟨P, w, S, Q', rh, sl, h, hq, hx⟩ => ⟨P, w, S, _, rh, sl, h, fun d w1 h1 v H1 P1 g1 r1 => by
    obtain ⟨c, rfl, hd⟩ := isDc_ok g1.rh r1 h1.1
    refine ⟨c, rfl, hd, P1, w1, S, _, g1.rh, sl.mono g1.ex, h1.2, fun y w2 h2 u H2 P2 g2 r2 => ?_, hx.go g1⟩
    obtain ⟨c', o, r, e, dg, ro, hk⟩ := dAt_ok g2.rh (r1.mono g2.ex) r2 h2
    cases e
    exact ⟨r, dg, hq _ w2 hk _ H2 P2 (g1.trans g2) (ro.getD .non)⟩, hx⟩
/-- {} -/
def dNewK : DE := fun _ w Q => ∀ p, w p = none → Q (.ref p) (put w p (.dK []))
def dNewT : DE := fun _ w Q => ∀ p, w p = none → Q (.ref p) (put w p (.dT []))
theorem qe_newK : QE X W W' (.Dict [] [] pos) dNewK := PE.imp pe_dnewK
  fun σ H Q ⟨P, w, S, Q', rh, sl, h, hq, hx⟩ p hp => hq _ _ (h p (rh.free hp).2) _ _ _ (rh.newW (n := .dK []) hp ⟨[], rfl, .nil⟩) (.ref p)
theorem qe_newT : QE X W W' (.Dict [] [] pos) dNewT := PE.imp pe_dnewT
  fun σ H Q ⟨P, w, S, Q', rh, sl, h, hq, hx⟩ p hp => hq _ _ (h p (rh.free hp).2) _ _ _ (rh.newW (n := .dT []) hp ⟨[], rfl, .nil⟩) (.ref p)
/-! ### a dict that is walked -/
def dLockE (t : DE) : DE := fun S w Q => ∃ p kvs, w p = some (.dK kvs) ∧ ∀ od u, t S (put w p (.lkK od u kvs)) fun d w1 => w1 p = some (.lkK od u kvs) ∧ Q d (put w1 p (.dK kvs))
theorem qe_lock {t : DE} (h : QE X W W' e t) : QE X W W' e (dLockE t) := PE.imp (pe_lock h)
  fun σ H Q ⟨P, w, S, Q', rh, sl, ⟨p, kvs, hw, h⟩, hq, hx⟩ => by
    obtain ⟨_, ho, h1, kws, rfl, kv⟩ := rh.own p _ hw
    refine ⟨p, .dK kws, h1, trivial, fun od => ?_⟩
    have g := rh.setW (m := .lkK od (.dK kws) kvs) (o := .frz od (.dK kws)) hw ⟨rfl, kws, rfl, kv⟩
    refine ⟨P, _, S, _, g.rh, sl, h od (.dK kws), fun d w1 h2 v H1 P1 g1 r1 => ?_, hx.go g⟩
    obtain ⟨_, ho, h3, e3, kws', e4, kv'⟩ := g1.rh.own p _ h2.1
    cases e4
    subst e3
    have g2 := g1.rh.setW (m := .dK kvs) (o := .dK kws) h2.1 ⟨kws, rfl, kv'⟩
    exact ⟨h3, hq _ _ h2.2 _ _ _ ((g.trans g1).trans g2) (r1.mono g2.ex)⟩
def dLock (t : DS) : DS := fun D S w => ∃ p kvs, w p = some (.dK kvs) ∧ ∀ od u, t { nx := fun S1 w1 => w1 p = some (.lkK od u kvs) ∧ D.nx S1 (put w1 p (.dK kvs)), rt := fun d w1 => w1 p = some (.lkK od u kvs) ∧ D.rt d (put w1 p (.dK kvs)), bk := fun S1 w1 => w1 p = some (.lkK od u kvs) ∧ D.bk S1 (put w1 p (.dK kvs)), ct := fun S1 w1 => w1 p = some (.lkK od u kvs) ∧ D.ct S1 (put w1 p (.dK kvs)) } S (put w p (.lkK od u kvs))
theorem qs_lock {st : Stmt} {t : DS} (h : QS X W W' st t) : QS X W W' st (dLock t) := PS.imp (ps_lock h)
  fun D σ H ⟨P, w, S, D', rh, sl, ⟨p, kvs, hw, h⟩, hd, hx⟩ => by
    obtain ⟨_, ho, h1, kws, rfl, kv⟩ := rh.own p _ hw
    refine ⟨p, .dK kws, h1, trivial, fun od => ?_⟩
    have g := rh.setW (m := .lkK od (.dK kws) kvs) (o := .frz od (.dK kws)) hw ⟨rfl, kws, rfl, kv⟩
    have back : ∀ {w1 : Wd} {H1 P1 : Hp}, Go X.K (upd H p (.frz od (.dK kws))) P (put w p (.lkK od (.dK kws) kvs)) H1 P1 w1 → w1 p = some (.lkK od (.dK kws) kvs) → H1 p = some (.frz od (.dK kws)) ∧ Go X.K H P w (upd H1 p (.dK kws)) P1 (put w1 p (.dK kvs)) := by
      intro w1 H1 P1 g1 h2
      obtain ⟨_, ho, h3, e3, kws', e4, kv'⟩ := g1.rh.own p _ h2
      cases e4
      subst e3
      exact ⟨h3, (g.trans g1).trans (g1.rh.setW (m := .dK kvs) (o := .dK kws) h2 ⟨kws, rfl, kv'⟩)⟩
    refine ⟨P, _, S, _, g.rh, sl, h od (.dK kws), ⟨fun S1 w1 q σ1 H1 P1 g1 s1 => ?_, fun d w1 q v H1 P1 g1 r1 => ?_, fun S1 w1 q σ1 H1 P1 g1 s1 => ?_, fun S1 w1 q σ1 H1 P1 g1 s1 => ?_⟩, hx.go g⟩
    · obtain ⟨a, b⟩ := back g1 q.1; exact ⟨a, hd.nx _ _ q.2 _ _ _ b s1⟩
    · obtain ⟨a, b⟩ := back g1 q.1; exact ⟨a, hd.rt _ _ q.2 _ _ _ b r1⟩
    · obtain ⟨a, b⟩ := back g1 q.1; exact ⟨a, hd.bk _ _ q.2 _ _ _ b s1⟩
    · obtain ⟨a, b⟩ := back g1 q.1; exact ⟨a, hd.ct _ _ q.2 _ _ _ b s1⟩
def itK (kvs : List (L2.Key × D)) (ok : Wd → Prop) : DIt := ⟨kvs.length, fun i => (kvs.map fun kv => kD kv.1).getD i .non, ok⟩
def diK (te : DE) : DI := fun S w R => te S w fun d w1 => match d with
  | .ref p => match w1 p with
    | some (.lkK o u kvs) => R (itK kvs fun w2 => w2 p = some (.lkK o u kvs)) w1
    | _ => False
  | _ => False
theorem qi_keys {tg : Expr} (he : QE X W W' e te) : QI X W W' tg e (diK te) := PI.imp (pi_keys he)
  fun σ H R ⟨P, w, S, R', rh, sl, h, hR, hx⟩ => ⟨P, w, S, _, rh, sl, h, fun d w1 h1 v H1 P1 g1 r1 => by
    dsimp only at h1
    split at h1
    · rename_i p
      cases r1
      split at h1
      · rename_i o u kvs hw
        obtain ⟨_, ho, q1, rfl, kws, rfl, kv⟩ := g1.rh.own p _ hw
        refine ⟨p, o, rfl, .inl ⟨kws, q1, hR _ w1 h1 _ H1 P1 g1 ?_⟩⟩
        intro H2 P2 w2 e2 rh2 hk
        obtain ⟨_, ho, q2, rfl, kws', e3, kv2⟩ := rh2.own p _ hk
        cases e3
        refine ⟨fun i hi => ⟨⟨q2, by rw [KVr.length kv]; exact hi⟩, fun x H3 ⟨eH, k, v, hkv, ex⟩ => ⟨P2, by rw [eH]; exact rh2.go, ?_⟩⟩, q2, by rw [KVr.length kv]; exact Nat.le_refl _⟩
        obtain ⟨d, hl, _⟩ := KVr.getI kv2 hkv
        subst ex
        have e : (itK kvs fun w2 => w2 p = some (.lkK o (.dK kws) kvs)).item i = kD k := by
          show (kvs.map fun kv => kD kv.1).getD i .non = _
          rw [List.getD_eq_getElem?_getD, List.getElem?_map, hl]; rfl
        rw [e]
        exact kD_rep k
      · exact h1.elim
    · exact h1.elim, hx⟩
end
end TD

set_option maxHeartbeats 2000000
namespace TD
open PySem PySem.Spec PyProof.Rows L2
/-! ### sep.join, sorted(d), equations for dicts and texts -/
def joinD : DRm := fun x ds w Q => match x, ds with
  | .str a, [d] => ∃ ys : List Str, getL w d = some (ys.map D.str) ∧ (ys.map (·.length)).sum + ys.length * a.length ≤ 16777216 ∧ Q (.str (Txt.join a ys)) w
  | _, _ => False
theorem RepL.of_strs {K : PySem.W.Frag} {P : Hp} : ∀ {ns : List Str} {vs : List V}, RepL K P (ns.map D.str) vs → vs = ns.map V.str
  | [], _, h => by cases h; rfl
  | n :: r, _, h => by
    cases h with
    | cons h t => cases h; rw [RepL.of_strs t]; rfl
theorem RepL.strs {K : PySem.W.Frag} {P : Hp} : ∀ (ns : List Str), RepL K P (ns.map D.str) (ns.map V.str)
  | [] => .nil
  | n :: r => .cons (.str n) (RepL.strs r)
theorem tr_join {K : PySem.W.Frag} : TrRm K "str" (fun x xs H Q => ∃ a p, ∃ ys : List Str, x = .str a ∧ xs = [.ref p] ∧ (SqL K H p (ys.map V.str) ∨ SqT K H p (ys.map V.str)) ∧
    (ys.map (·.length)).sum + ys.length * a.length ≤ 16777216 ∧ Q (.str (Txt.join a ys)) H) joinD := by
  intro H P w x xs dx ds Q' Q rh rx rs h hq
  unfold joinD at h
  split at h
  · obtain ⟨ys, h1, h2, h3⟩ := h
    cases rx
    cases rs with
    | cons r1 r2 =>
      cases r2
      obtain ⟨a, vs, rfl, sq, r⟩ := getL_at rh r1 h1
      have e := RepL.of_strs r
      subst e
      exact ⟨_, a, ys, rfl, rfl, .inl sq, h2, hq _ w h3 _ H P rh.go (.str _)⟩
  · exact h.elim
theorem joinD_l {a : Str} {ys : List Str} {w : Wd} {Q : DKt} (h : (ys.map (·.length)).sum + ys.length * a.length ≤ 16777216) (q : Q (.str (Txt.join a ys)) w) : joinD (.str a) [.lst (ys.map D.str)] w Q := ⟨ys, rfl, h, q⟩
theorem join_cps (ys : List Str) : (Txt.join "" ys).cps.toList = (ys.map fun y => y.cps.toList).flatten := by
  show (PySem.Builtin.Str.glued "" ys).cps.toList = _
  rw [StrLaws.glued_eq_join]
  induction ys with
  | nil => rfl
  | cons y r ih =>
    cases r with
    | nil => show y.cps.toList = _; simp
    | cons z r =>
      have e : Str.join "" (y :: z :: r) = y ++ "" ++ Str.join "" (z :: r) := rfl
      rw [e, List.map_cons, List.flatten_cons, ← ih]
      show ((y.cps ++ #[]) ++ (Str.join "" (z :: r)).cps).toList = _
      simp
theorem cutS_cps (z : Str) (lo hi : Option Int) : (cutS z lo hi).cps.toList = (z.cps.toList.drop (HT.sIx z.length 0 lo)).take (HT.sIx z.length z.length hi - HT.sIx z.length 0 lo) := rfl
/-- sorted(d) -/
def sortK : DRl := fun ds w Q => match ds with
  | [.ref p] => match w p with
    | some (.dK kvs) => ∃ ks : List Str, kvs.map (·.1) = ks.map Sum.inr ∧ ks.length < 64 ∧ ∀ ys : List Str, ys.Perm ks → sortedS ys = true → Q (.lst (ys.map D.str)) w
    | _ => False
  | _ => False
theorem tr_sortK {K : PySem.W.Frag} : TrRl K (fun xs H Q => ∃ (a : Addr) (kvs : List (L2.Key × V)) (ks : List Str), xs = [.ref a] ∧ Rd H a (.dK kvs) ∧ kvs.map (·.1) = ks.map Sum.inr ∧ ks.length < 64 ∧
    ∀ ys p, ys.Perm ks → sortedS ys = true → H p = none → Q (.ref p) (upd H p (.lst (ys.map V.str)))) sortK := by
  intro H P w xs ds Q' Q rh r h hq
  unfold sortK at h
  split at h
  · rename_i p
    split at h
    · rename_i kvs hw
      obtain ⟨ks, h1, h2, h3⟩ := h
      obtain ⟨_, ho, q1, kws, rfl, kv⟩ := rh.own p _ hw
      cases r with
      | cons r1 r2 =>
        cases r1
        cases r2
        refine ⟨p, kws, ks, rfl, .inl q1, (KVr.parts kv).1.trans h1, h2, fun ys q h4 h5 h6 => ?_⟩
        have g := rh.newP (o := .lst (ys.map V.str)) h6
        exact hq _ w (h3 ys h4 h5) _ _ _ g (.lst upd_same (RepL.strs ys))
    · exact h.elim
  · exact h.elim
theorem sortK_w {w : Wd} {p : Addr} {kvs : List (L2.Key × D)} {Q : DKt} (h : w p = some (.dK kvs)) : sortK [.ref p] w Q = (∃ ks : List Str, kvs.map (·.1) = ks.map Sum.inr ∧ ks.length < 64 ∧ ∀ ys : List Str, ys.Perm ks → sortedS ys = true → Q (.lst (ys.map D.str)) w) := by
  unfold sortK; simp only [h]
section
variable {w : Wd} {Q : DKt} {p : Addr} {neg : Bool} {x : D} {k : L2.Key} {ks : List L2.Key} {kvs : List (L2.Key × D)} {kts : List (List L2.Key × D)} {xs : List D}
theorem inD_k (h : w p = some (.dK kvs)) (hk : keyD x = some k) : inD neg x (.ref p) w Q = Q (.bl (neg != (valD kvs k).isSome)) w := by
  have e : inD neg x (.ref p) w Q = inG neg x (.ref p) w Q := by cases x <;> rfl
  rw [e]; unfold inG; simp only [getS, getL, getK, h, hk]
theorem inD_kt (h : w p = some (.dT kts)) (hk : keysD xs = some ks) : inD neg (.tup xs) (.ref p) w Q = Q (.bl (neg != (valD kts ks).isSome)) w := by
  have e : inD neg (.tup xs) (.ref p) w Q = inG neg (.tup xs) (.ref p) w Q := rfl
  rw [e]; unfold inG; simp only [getS, getL, getK, getKT, keyTD, keyD, h, hk]
theorem ixD_k {d : D} (h : w p = some (.dK kvs)) (hk : keyD x = some k) (hd : valD kvs k = some d) : ixD (.ref p) x w Q = Q d w := by
  have e : ixD (.ref p) x w Q = ixG (.ref p) x w Q := by cases x <;> rfl
  rw [e]; unfold ixG; simp only [getS, getL, getK, h, hk, hd]
theorem ixD_lk {d : D} {o : Obj} {u : HO} (h : w p = some (.lkK o u kvs)) (hk : keyD x = some k) (hd : valD kvs k = some d) : ixD (.ref p) x w Q = Q d w := by
  have e : ixD (.ref p) x w Q = ixG (.ref p) x w Q := by cases x <;> rfl
  rw [e]; unfold ixG; simp only [getS, getL, getK, h, hk, hd]
theorem ixD_kt {d : D} (h : w p = some (.dT kts)) (hk : keysD xs = some ks) (hd : valD kts ks = some d) : ixD (.ref p) (.tup xs) w Q = Q d w := by
  have e : ixD (.ref p) (.tup xs) w Q = ixG (.ref p) (.tup xs) w Q := rfl
  rw [e]; unfold ixG; simp only [getS, getL, getK, getKT, keyTD, keyD, h, hk, hd]
end
theorem dGet1_ev {to ti : DE} {S : DSt} {w : Wd} {p : Addr} {x : D} {k : L2.Key} {kvs : List (L2.Key × D)} (h1 : EvE to S w (.ref p)) (h2 : EvE ti S w x) (hw : w p = some (.dK kvs)) (hk : keyD x = some k) : EvE (dGet1 to ti) S w ((valD kvs k).getD .non) := fun Q q => h1 _ ⟨isDc_k hw, h2 _ (by rw [dAt_k hw hk]; exact q)⟩
theorem dGet1_evT {to ti : DE} {S : DSt} {w : Wd} {p : Addr} {xs : List D} {k : List L2.Key} {kvs : List (List L2.Key × D)} (h1 : EvE to S w (.ref p)) (h2 : EvE ti S w (.tup xs)) (hw : w p = some (.dT kvs)) (hk : keysD xs = some k) : EvE (dGet1 to ti) S w ((valD kvs k).getD .non) := fun Q q => h1 _ ⟨isDc_t hw, h2 _ (by rw [dAt_t hw hk]; exact q)⟩
theorem dFld_ev {C : Addr} {f : Str} {te : DE} {S : DSt} {w : Wd} {p : Addr} {fs : List (Str × D)} {d : D} (h1 : EvE te S w (.ref p)) (hw : w p = some (.ins C fs)) (hf : fs.lookup f = some d) : EvE (dFld C f te) S w d := fun Q q => h1 _ (by
  rw [atO_w hw]; unfold getF; rw [hf]; exact q)
/-- w1 has what w has -/
def Grow (w w1 : Wd) : Prop := ∀ a n, w a = some n → w1 a = some n
theorem Grow.refl (w : Wd) : Grow w w := fun _ _ h => h
theorem Grow.trans {w w1 w2 : Wd} (h : Grow w w1) (h2 : Grow w1 w2) : Grow w w2 := fun a n q => h2 a n (h a n q)
theorem Grow.put {w : Wd} {p : Addr} {n : Nd} (h : w p = none) : Grow w (put w p n) := fun a m q => by rw [put_ne (fun z => by rw [z, h] at q; cases q)]; exact q
theorem Grow.put2 {w w1 : Wd} {p : Addr} {n : Nd} (g : Grow w w1) (h : w p = none) : Grow w (TD.put w1 p n) := fun a m q => by rw [put_ne (fun z => by rw [z, h] at q; cases q)]; exact g a m q
end TD

set_option maxHeartbeats 2000000
namespace TD
open PySem PySem.Spec PyProof.Rows L2
/-! ### x in y, data of any depth -/
def inP (neg : Bool) : DR2 := fun x y w Q => ∃ d ds, pyOf w x = some d ∧ pyOf w y = some (.list ds) ∧ SeqAt.shaped d = true ∧ SeqAt.shaped (.list ds) = true ∧ Q (.bl (neg != ds.any fun z => PyData.eqv z d)) w
theorem tr_inP {K : PySem.W.Frag} : TrR2 K (rInD K) (inP false) := by
  rintro H P w x y dx dy Q' Q rh rx ry ⟨d, ds, h1, h2, h3, h4, q⟩ hq
  refine ⟨d, ds, pyOf_dp rh rx h1, pyOf_dp rh ry h2, h3, h4, ?_⟩
  rw [Bool.false_bne] at q
  exact hq _ w q _ H P rh.go (.bl _)
theorem tr_ninP {K : PySem.W.Frag} : TrR2 K (rNotInD K) (inP true) := by
  rintro H P w x y dx dy Q' Q rh rx ry ⟨d, ds, h1, h2, h3, h4, q⟩ hq
  refine ⟨d, ds, pyOf_dp rh rx h1, pyOf_dp rh ry h2, h3, h4, ?_⟩
  rw [Bool.true_bne] at q
  exact hq _ w q _ H P rh.go (.bl _)
section
variable {X : Cx} {W : WX} {W' : DWX} {a b : Expr} {ta tb : DE} {pos : Pos} {j : Nat}
theorem qt_inP (hr : Room j X.A) (ha : QE X W W' a ta) (hb : QE X W W' b tb) (hm : behindInMarks .In b = false := by rfl) : QT X W W' (.Compare a [.In] [b] pos) (dB (dOp (inP false) ta tb)) := qt_cmp (op_inD (by have := hr.un; omega)) tr_inP ha hb hm
theorem qt_ninP (hr : Room j X.A) (ha : QE X W W' a ta) (hb : QE X W W' b tb) (hm : behindInMarks .NotIn b = false := by rfl) : QT X W W' (.Compare a [.NotIn] [b] pos) (dB (dOp (inP true) ta tb)) := qt_cmp (op_notInD (by have := hr.un; omega)) tr_ninP ha hb hm
end
end TD

set_option maxHeartbeats 2000000
namespace TD
open PySem PySem.Spec PyProof.Rows L2
/-! ### list.count, list.index of bools; == of ints and items of tuples within an except suite -/
theorem cntU {y : V} : ∀ {ys : List V} {us : List Value}, Vals ys us → ys.all flatV = true → us.countP (eqU y) = ys.countP (fun z => eqV z y)
  | _, _, .nil, _ => rfl
  | z :: ys, u :: us, .cons r t, h => by
    rw [List.all_cons, Bool.and_eq_true] at h
    rw [List.countP_cons, List.countP_cons, cntU t h.2, eqU_of r h.1]
def rCntV (K : PySem.W.Frag) : V → List V → Hp → VK → Prop := fun x xs H Q => ∃ (a : Addr) (ys : List V) (y : V), x = V.ref a ∧ xs = [y] ∧ SqL K H a ys ∧ flatV y = true ∧ ys.all flatV = true ∧ Q (.int (ys.countP (fun z => eqV z y) : Nat)) H
theorem mt_lcnt {X : Cx} : MtR X "list.count" (rCntV X.K) := by
  intro pins s σ H x xs v us Q I rx rxs h
  obtain ⟨p, ys, y, rfl, rfl, hs, fy, fys, q⟩ := h
  cases rx
  cases rxs with
  | cons ry rt =>
    rename_i uy ut
    cases rt
    obtain ⟨its, rv, ⟨⟨cls, dd, data, sl⟩, n, ho, hc, hdn, hd⟩, hlen⟩ := I.list hs
    simp only at hc hd
    subst hc hd
    refine call_meets PySem.F.slot_list_count ⟨_, ho, rfl⟩ PySem.F.entry_list_count (PySem.F.args_list_count_2 _ _)
      (SeqAt.list_countAt p its.toArray n dd sl uy (eqU y)) ⟨ho, fun u' hu' => mem_eqAt ry fy rv fys u' (by simpa using hu'), ?_⟩
    have ec : its.toArray.toList.countP (eqU y) = ys.countP (fun z => eqV z y) := cntU rv fys
    refine ⟨.int (ys.countP (fun z => eqV z y) : Nat), H, I.tok _, ⟨s.toks, ?_⟩, q⟩
    show Value.int ((its.toArray.toList.countP (eqU y) : Nat) : Int) s.toks = _
    rw [ec]
theorem RepL.of_bls {K : PySem.W.Frag} {P : Hp} : ∀ {bs : List Bool} {vs : List V}, RepL K P (bs.map D.bl) vs → vs = bs.map V.bl
  | [], _, h => by cases h; rfl
  | n :: r, _, h => by
    cases h with
    | cons h t => cases h; rw [RepL.of_bls t]; rfl
def cntD : DRm := fun x ds w Q => match ds with
  | [.bl k] => ∃ bs : List Bool, getL w x = some (bs.map D.bl) ∧ Q (.int (bs.count k : Nat)) w
  | _ => False
theorem tr_cnt {K : PySem.W.Frag} : TrRm K "list" (rCntV K) cntD := by
  intro H P w x xs dx ds Q' Q rh rx rs h hq
  unfold cntD at h
  split at h
  · rename_i k
    obtain ⟨bs, h1, h2⟩ := h
    obtain ⟨a, vs, rfl, sq, r⟩ := getL_at rh rx h1
    have e := RepL.of_bls r
    subst e
    cases rs with
    | cons r1 r2 =>
      cases r1
      cases r2
      refine ⟨a, _, .bl k, rfl, rfl, sq, rfl, by rw [List.all_map]; exact List.all_eq_true.mpr fun _ _ => rfl, ?_⟩
      have e : (bs.map V.bl).countP (fun z => eqV z (.bl k)) = bs.count k := by
        rw [List.countP_map]; rfl
      rw [e]
      exact hq _ w h2 _ H P rh.go (.int _)
  · exact h.elim
def idxD : DRm := fun x ds w Q => match ds with
  | [.bl k] => ∃ (bs : List Bool) (j : Nat), getL w x = some (bs.map D.bl) ∧ bs[j]? = some k ∧ (∀ m, m < j → bs[m]? ≠ some k) ∧ Q (.int (j : Nat)) w
  | _ => False
theorem tr_idx {K : PySem.W.Frag} : TrRm K "list" (rIndex K) idxD := by
  intro H P w x xs dx ds Q' Q rh rx rs h hq
  unfold idxD at h
  split at h
  · rename_i k
    obtain ⟨bs, j, h1, hj, hm, h2⟩ := h
    obtain ⟨a, vs, rfl, sq, r⟩ := getL_at rh rx h1
    have e := RepL.of_bls r
    subst e
    cases rs with
    | cons r1 r2 =>
      cases r1
      cases r2
      refine ⟨a, _, .bl k, j, .bl k, rfl, rfl, sq, rfl, by rw [List.all_map]; exact List.all_eq_true.mpr fun _ _ => rfl, by rw [List.getElem?_map, hj]; rfl, by show (k == k) = true; simp, fun m z' hl hz => ?_, hq _ w h2 _ H P rh.go (.int _)⟩
      rw [List.getElem?_map] at hz
      cases e : bs[m]? with
      | none => rw [e] at hz; cases hz
      | some b =>
        rw [e] at hz; cases hz
        show (b == k) = false
        have := hm m hl
        rw [e] at this
        exact beq_eq_false_iff_ne.mpr fun z => this (by rw [z])
  · exact h.elim
def eqI : DR2 := fun x y w Q => match x, y with
  | .int i, .int j => Q (.bl (decide (i = j))) w
  | _, _ => False
theorem tr_eqI {K : PySem.W.Frag} : TrR2 K rEq eqI := by
  intro H P w x y dx dy Q' Q rh rx ry h hq
  unfold eqI at h
  split at h
  · rename_i i j
    cases rx
    cases ry
    refine ⟨rfl, ?_⟩
    have e : decide (V.int i = V.int j) = decide (i = j) := by rw [Bool.eq_iff_iff]; simp
    rw [e]
    exact hq _ w h _ H P rh.go (.bl _)
  · exact h.elim
def ixT : DR2 := fun x y w Q => match x, y with
  | .tup xs, .int i => match atI xs i with
    | some d => Q d w
    | none => False
  | _, _ => False
theorem tr_ixT {K : PySem.W.Frag} : TrR2 K (rIxT K) ixT := by
  intro H P w x y dx dy Q' Q rh rx ry h hq
  unfold ixT at h
  split at h
  · rename_i xs i
    cases ry
    cases rx with
    | tup q r =>
      split at h
      · rename_i d hd
        obtain ⟨v, hv, rv⟩ := atI_rep r hd
        exact ⟨_, _, i, v, rfl, rfl, SqT.of (rh.per _ _ q), hv, hq _ w h _ H P rh.go rv⟩
      · exact h.elim
  · exact h.elim
section
variable {X : Cx} {W : WX} {W' : DWX} {a b : Expr} {ta tb : DE} {pos : Pos}
theorem qt_eqI (ha : QE X W W' a ta) (hb : QE X W W' b tb) : QT X W W' (.Compare a [.Eq] [b] pos) (dB (dOp eqI ta tb)) := qt_cmp op_eq tr_eqI ha hb
theorem qe_eqI (ha : QE X W W' a ta) (hb : QE X W W' b tb) : QE X W W' (.Compare a [.Eq] [b] pos) (dOp eqI ta tb) := qe_cmp op_eq tr_eqI ha hb
theorem qe_ixT (ha : QE X W W' a ta) (hb : QE X W W' b tb) (hs : PlainIx b := by exact fun _ _ => rfl) : QE X W W' (.Subscript a b pos) (dOp ixT ta tb) := qe_ix ix_tup tr_ixT ha hb hs
/-- [x] * n, kept -/
def mulDO : DR2 := fun x y w Q => match x, y with
  | .lst xs, .int k => -(2 ^ 63) ≤ k ∧ k < 2 ^ 63 ∧ xs.length * k.toNat ≤ sizeLine ∧ ∀ p, w p = none → Q (.ref p) (put w p (.lst (List.replicate k.toNat xs).flatten))
  | _, _ => False
theorem tr_mulO {K : PySem.W.Frag} : TrR2 K rRep mulDO := by
  intro H P w x y dx dy Q' Q rh rx ry h hq
  unfold mulDO at h
  split at h
  · rename_i xs k
    cases ry
    obtain ⟨h1, h2, h3, h4⟩ := h
    cases rx with
    | lst q r =>
      refine ⟨_, k, _, rfl, rfl, rh.per _ _ q, h1, h2, by rw [r.length]; exact h3, fun p hp => ?_⟩
      exact hq _ _ (h4 p (rh.free hp).2) _ _ _ (rh.newW (n := .lst (List.replicate k.toNat xs).flatten) hp ⟨_, rfl, RepL.reps r _⟩) (.ref p)
  · exact h.elim
theorem qe_mulO (ha : QE X W W' a ta) (hb : QE X W W' b tb) : QE X W W' (.BinOp a .Mult b pos) (dOp mulDO ta tb) := qe_op op_rep tr_mulO ha hb
end
end TD

set_option maxHeartbeats 4000000
/-! ### sorted: a dict whose keys are pairs of ints; a list of (int, int, text) -/
namespace SrtO
open PySem PySem.Spec PyProof.Rows L2
section
variable {prog : Program} {w : World} {A : Around} {s : Shared} {E : Value → Shared → Prop}
def IsTrip (h : Heap) (v : Value) (x y : Int) (z : PySem.Str) : Prop := ∃ a o t u r n, v = .ref a ∧ h.get? a = some o ∧ o.cls = .type "tuple" ∧ o.data = .seq #[.int x t, .int y u, .str z r] n
theorem IsTrip.keeps {h h' : Heap} {v : Value} {x y : Int} {z : PySem.Str} (p : IsTrip h v x y z) (k : ∀ b o, h.get? b = some o → o.cls = .type "tuple" → h'.get? b = some o) : IsTrip h' v x y z := by
  obtain ⟨a, o, t, u, r, n, e, ho, hc, hd⟩ := p
  exact ⟨a, o, t, u, r, n, e, k _ _ ho hc, hc, hd⟩
theorem trip_firsts {h : Heap} : ∀ {vs : List Value}, (∀ v ∈ vs, ∃ x y z, IsTrip h v x y z) → ∃ fs : List Value, PySem.W.KatTups h vs fs ∧ fs.length = vs.length ∧ ∀ f ∈ fs, ∃ x t, f = Value.int x t
  | [], _ => ⟨[], PySem.W.KatTups.nil, rfl, fun _ hm => by simp at hm⟩
  | v :: vs, hp => by
    obtain ⟨fs, h1, h2, h3⟩ := trip_firsts (vs := vs) fun v' hm => hp v' (List.mem_cons_of_mem _ hm)
    obtain ⟨x, y, z, a, o, t, u, r, n, e, ho, hc, hd⟩ := hp v (List.mem_cons_self ..)
    subst e
    refine ⟨.int x t :: fs, PySem.W.KatTups.cons ho hc hd rfl h1, by rw [List.length_cons, List.length_cons, h2], fun f hm => ?_⟩
    rcases List.mem_cons.mp hm with rfl | hm
    · exact ⟨x, t, rfl⟩
    · exact h3 f hm
theorem trip_cmp {vs : List Value} {k : Value → Int × Int} {zz : Value → PySem.Str} (hp : ∀ v ∈ vs, IsTrip s.heap v (k v).1 (k v).2 (zz v)) (hz : ∀ v ∈ vs, ∀ u ∈ vs, k v = k u → zz v = zz u) : Cmp prog w A s (tuples' true) (fun p => p.1 ∈ vs) (lt2 fun v u => lexB (k v) (k u)) := by
  intro p q hm hm'
  have h1 := hp _ hm
  have h2 := hp _ hm'
  have h3 := hz _ hm _ hm'
  show wpAny (model prog w) A (keyLt' (tuples' true) p.1 q.1) (fun r s' => s' = s ∧ r = lexB (k p.1) (k q.1)) (fun _ _ => False) s
  unfold lexB
  have h3' : (k p.1).1 = (k q.1).1 → (k p.1).2 = (k q.1).2 → zz p.1 = zz q.1 := fun a b => h3 (Prod.ext a b)
  generalize (k p.1).1 = x at h1 h3' ⊢
  generalize (k p.1).2 = y at h1 h3' ⊢
  generalize (k q.1).1 = x' at h2 h3' ⊢
  generalize (k q.1).2 = y' at h2 h3' ⊢
  obtain ⟨a, o, t, u, r, n, e, ho, hc, hd⟩ := h1
  obtain ⟨a', o', t', u', r', n', e', ho', hc', hd'⟩ := h2
  rw [e, e']
  refine PySem.W.kat_lt ho hd ho' hd' ?_
  show PySem.W.KatLex prog w A true (decide (3 < 3)) _ [(.int x t, .int x' t'), (.int y u, .int y' u'), (.str (zz p.1) r, .str (zz q.1) r')] 0 s
  refine PySem.W.kat_cons (SeqAt.EqAt.int_int x t x' t' prog w _ _ ?_)
  refine PySem.W.kat_go (fun e1 => ?_) (fun e1 => ?_)
  · have ex : x = x' := by simpa using e1
    refine PySem.W.kat_yes (PySem.W.kat_cons (SeqAt.EqAt.int_int y u y' u' prog w _ _ ?_))
    refine PySem.W.kat_go (fun e2 => ?_) (fun e2 => ?_)
    · have ey : y = y' := by simpa using e2
      have e3 : (if x = x' then decide (y < y') else decide (x < x')) = false := by
        rw [if_pos ex, ey]
        exact decide_eq_false (Int.lt_irrefl _)
      have ez := h3' ex ey
      refine PySem.W.kat_yes (PySem.W.kat_cons (SeqAt.EqAt.str_str (zz p.1) r (zz q.1) r' prog w _ _ ?_))
      refine PySem.W.kat_go (fun _ => PySem.W.kat_yes (PySem.W.kat_nil ⟨rfl, e3.symm⟩)) (fun e4 => ?_)
      rw [ez] at e4
      simp at e4
    · have e3 : (if x = x' then decide (y < y') else decide (x < x')) = decide (y < y') := if_pos ex
      refine PySem.W.kat_no (PySem.W.kat_one _ _ (PyProof.Rows.lt_int ?_))
      exact (show s = s ∧ decide (y < y') = (if x = x' then decide (y < y') else decide (x < x')) from ⟨rfl, e3.symm⟩)
  · have ex : ¬ x = x' := by simpa using e1
    have e3 : (if x = x' then decide (y < y') else decide (x < x')) = decide (x < x') := if_neg ex
    exact PySem.W.kat_no (oneLt_int ⟨rfl, e3.symm⟩)
theorem trips_sortableO {a : Addr} {vs : List Value} {k : Value → Int × Int} {zz : Value → PySem.Str} (h0 : 0 < vs.length) (hp : ∀ v ∈ vs, IsTrip s.heap v (k v).1 (k v).2 (zz v)) (hz : ∀ v ∈ vs, ∀ u ∈ vs, k v = k u → zz v = zz u) (ha : ∀ o, s.heap.get? a = some o → o.cls ≠ .type "tuple") : SortableO prog w A s a vs fun v u => lexB (k v) (k u) := by
  intro h' keep
  have hp' : ∀ v ∈ vs, IsTrip h' v (k v).1 (k v).2 (zz v) := fun v hm => (hp v hm).keeps fun b o e c => keep b o (fun z => by subst z; exact ha o e c) e
  obtain ⟨fs, h1, h2, h3⟩ := trip_firsts fun v hm => ⟨_, _, _, hp' v hm⟩
  refine ⟨tuples' true, fun Q E hq => ?_, trip_cmp hp' hz⟩
  refine PySem.W.kat_kind (T := .type "int") h1 (by omega) (fun f hm => ?_) (by rfl) ?_
  · obtain ⟨x, t, rfl⟩ := h3 f hm
    exact PySem.W.Looks.now
  · have e : (Value.type "int" != Value.type "tuple") = true := by first | decide +kernel | rfl | decide
    rw [e]
    exact hq
end
end SrtO
namespace TD
open PySem PySem.Spec PyProof.Rows L2
/-- the first two ints of a tuple -/
def kH (H : Hp) : V → Int × Int
  | .ref b => match H b with
    | some (.tup (.int x :: .int y :: _)) => (x, y)
    | _ => (0, 0)
  | _ => (0, 0)
def zH (H : Hp) : V → Str
  | .ref b => match H b with
    | some (.tup (_ :: _ :: .str z :: _)) => z
    | _ => ""
  | _ => ""
abbrev SrtV (k : V → Int × Int) (ys : List V) : Prop := ys.Pairwise fun u v => SrtO.lexB (k v) (k u) = false
def rSort3 (K : PySem.W.Frag) : List V → Hp → VK → Prop := fun vs H Q => ∃ (a : Addr) (xs : List V), vs = [V.ref a] ∧ SqL K H a xs ∧ (∀ x ∈ xs, ∃ t, x = V.ref t ∧ H t = some (.tup [.int (kH H x).1, .int (kH H x).2, .str (zH H x)])) ∧ (∀ x ∈ xs, ∀ y ∈ xs, kH H x = kH H y → zH H x = zH H y) ∧
  ∀ ys p, ys.Perm xs → SrtV (kH H) ys → H p = none → Q (.ref p) (upd H p (.lst ys))
section
variable {X : Cx}
theorem cr_sort3 : CallR X (.builtin "sorted") (rSort3 X.K) := by
  intro pins s σ H vs us Q I r h
  obtain ⟨a, xs, rfl, hs, hx, hzz, q⟩ := h
  obtain ⟨its, rv, hl, hz⟩ := I.list hs
  obtain ⟨u, rfl, ru⟩ := vals1 r
  obtain rfl : u = Value.ref a := ru
  obtain ⟨e1, e2⟩ := refs_back rv fun x m => by
    obtain ⟨t, e, _⟩ := hx x m
    exact ⟨t, e⟩
  have hm : ∀ v ∈ its, backV v ∈ xs := fun v hv => by rw [e1]; exact List.mem_map.mpr ⟨_, hv, rfl⟩
  have hp : ∀ v ∈ its, SrtO.IsTrip s.heap v (kH H (backV v)).1 (kH H (backV v)).2 (zH H (backV v)) := fun v hv => by
    obtain ⟨t, rfl⟩ := e2 v hv
    obtain ⟨t', e, ht⟩ := hx _ (hm _ hv)
    cases e
    obtain ⟨_, its2, r2, o, ho, hc, n, hd⟩ := I.hok _ _ ht
    cases r2 with
    | cons ra r2 => cases r2 with
      | cons rb r2 => cases r2 with
        | cons rc r2 =>
          cases r2
          obtain ⟨t1, rfl⟩ := ra
          obtain ⟨t2, rfl⟩ := rb
          obtain ⟨t3, rfl⟩ := rc
          exact ⟨t, o, t1, t2, t3, n, rfl, ho, hc, hd⟩
  have hz2 : ∀ v ∈ its, ∀ u ∈ its, kH H (backV v) = kH H (backV u) → zH H (backV v) = zH H (backV u) := fun v hv u hu => hzz _ (hm v hv) _ (hm u hu)
  refine SrtO.sorted_ord (SrtO.swo_lex fun u => kH H (backV u)) hl.isList (by rw [← rv.length]; exact hz) (fun h2 h₁ b hb kk => ?_) fun out h1 h2 => ?_
  · refine SrtO.trips_sortableO (s := { s with heap := h₁ }) (zz := fun u => zH H (backV u)) (by omega) (fun v hm => (hp v hm).keeps fun b o e _ => (kk b o e).2) hz2 fun o e => ?_
    have e' : some o = some (seqObj "list" its.toArray 0) := e.symm.trans hb
    cases e'
    intro c
    exact absurd (Value.type.inj c) (by decide)
  · have h3 : ∀ u ∈ out, ∃ a, u = Value.ref a := fun u hu => e2 u (h2.perm.mem_iff.mp hu)
    obtain ⟨n, hn⟩ := sortedAll_at s.heap its out.toArray
    have hb : (out.map backV).Perm xs := by rw [e1]; exact h2.perm.map _
    refine ⟨.ref (s.heap.objs.size + 1), upd H (s.heap.objs.size + 1) (.lst (out.map backV)), I.laid (t' := s.toks) (fun b o e => sortedAll_old e) (Nat.le_succ _) ⟨?_, out, n, vals_back h3, hn⟩, rfl, q _ _ hb (SrtO.srtd_map (lt := fun u v => SrtO.lexB (kH H u) (kH H v)) h1) (I.hok.fresh (Nat.le_succ _))⟩
    rw [hb.length_eq]
    exact hz
/-- the key tuples of a dict -/
def KeysV (H : Hp) (kvs : List (List L2.Key × V)) (bs : List V) : Prop := Paired (fun kv b => ∃ a, b = V.ref a ∧ H a = some (.tup (kv.1.map kV))) kvs bs
def rSortDT : List V → Hp → VK → Prop := fun vs H Q => ∃ (d : Addr) (kvs : List (List L2.Key × V)), vs = [V.ref d] ∧ Rd H d (.dT kvs) ∧ (∀ kv ∈ kvs, ∃ x y, kv.1 = [.inl x, .inl y]) ∧
  ∀ bs ys p, KeysV H kvs bs → ys.Perm bs → SrtV (kH H) ys → H p = none → Q (.ref p) (upd H p (.lst ys))
theorem keysV_of {H : Hp} : ∀ {kvs : List (List L2.Key × V)} {bs : List Addr}, IsKeys H kvs bs → KeysV H kvs (bs.map V.ref)
  | _, _, .nil => .nil
  | _, _, .cons h r => .cons ⟨_, rfl, h⟩ (keysV_of r)
theorem keysV_mem {H : Hp} : ∀ {kvs : List (List L2.Key × V)} {bs : List V}, KeysV H kvs bs → ∀ b ∈ bs, ∃ kv ∈ kvs, ∃ a, b = V.ref a ∧ H a = some (.tup (kv.1.map kV))
  | _, _, .nil, b, h => by simp at h
  | kv :: kvs, b0 :: bs, .cons h r, b, hb => by
    rcases List.mem_cons.mp hb with rfl | hb
    · exact ⟨kv, List.mem_cons_self, h⟩
    · obtain ⟨kv', h1, h2⟩ := keysV_mem r b hb
      exact ⟨kv', List.mem_cons_of_mem _ h1, h2⟩
theorem cr_sortDT (hcalm : X.calm = true) : CallR X (.builtin "sorted") rSortDT := by
  intro pins s σ H vs us Q I r h
  obtain ⟨d, kvs, rfl, hd, hk2, q⟩ := h
  obtain ⟨u, rfl, rx⟩ := r.one
  cases rx
  obtain ⟨z, hs, ks, pr, o, es, ep, ho, hx, hdt, he, hn⟩ := (show ObjOk X.prog X.w H s.heap d (.dT kvs) from hd.ok I.hok)
  have l1 : es.size = ks.length := size_of_entries he
  have l2 : kvs.length = ks.length := Paired.length pr
  refine Calls.call_function_entry PyProof.Rows.kind_sorted PyProof.Rows.plain_sorted PyProof.Rows.entry_sorted (PyProof.Rows.args_sorted1 _) ?_
  unfold Builtin.«sorted»
  refine wpAny_bind (m := checkCount "sorted" 1 1 _) (wpAny_pure ?_)
  refine wpAny_bind (PySem.W.kdu_collect (A := X.A.in1) (kdl_raw hs hx hdt) (I.ok.hd hcalm) ho (by omega) fun h' tk acc' kp it => ?_)
  have ea : acc'.toList = ks.map fun x => Value.ref x.2.1 := by
    have hl : acc'.toList.length = ks.length := by rw [Array.length_toList, it.1]; exact l1
    apply List.ext_getElem?
    intro j
    rw [List.getElem?_map]
    cases hj : acc'.toList[j]? with
    | none =>
      have h1 := List.getElem?_eq_none_iff.mp hj
      rw [List.getElem?_eq_none (by omega)]
      all_goals rfl
    | some v =>
      obtain ⟨en, hen, hv⟩ := it.2 j v (by rw [← Array.getElem?_toList]; exact hj)
      have qe := entry_at he j
      rw [hen] at qe
      cases hb : ks[j]? with
      | none =>
        rw [hb] at qe
        exact nomatch (show some en = none from qe)
      | some b =>
        rw [hb] at qe
        have e2 : en = entryOfKey (tupleKind (mixKind X.prog X.w)) b := Option.some.inj qe
        rw [hv, e2]
        all_goals rfl
  have eb : acc'.toList = (ks.map fun x => x.2.1).map Value.ref := by rw [ea, List.map_map]; all_goals rfl
  have hK := keysV_of (isKeys_of pr)
  have hal : acc'.toList.length ≤ sizeLine := by rw [eb, List.length_map, List.length_map]; omega
  have I1 : Inv X pins σ H { s with heap := h', toks := tk } := I.kept kp
  have e2 : ∀ u ∈ acc'.toList, ∃ a, u = Value.ref a := fun u hu => by
    rw [eb] at hu
    obtain ⟨a, _, rfl⟩ := List.mem_map.mp hu
    exact ⟨a, rfl⟩
  have ebk : acc'.toList.map backV = (ks.map fun x => x.2.1).map V.ref := by rw [eb, List.map_map]; rfl
  have hp : ∀ v ∈ acc'.toList, Srt.IsPair h' v (kH H (backV v)).1 (kH H (backV v)).2 := fun v hv => by
    have hm : backV v ∈ (ks.map fun x => x.2.1).map V.ref := by rw [← ebk]; exact List.mem_map.mpr ⟨v, hv, rfl⟩
    obtain ⟨kv, hkv, a, ea2, ht⟩ := keysV_mem hK _ hm
    obtain ⟨x, y, exy⟩ := hk2 kv hkv
    obtain ⟨a', rfl⟩ := e2 v hv
    cases ea2
    rw [exy] at ht
    have ek : kH H (backV (.ref a)) = (x, y) := by show (match H a with | some (.tup (.int x :: .int y :: _)) => (x, y) | _ => (0, 0)) = _; rw [ht]; rfl
    rw [ek]
    obtain ⟨_, its2, r2, o, ho, hc, n, hd⟩ := I1.hok _ _ ht
    obtain ⟨u1, u2, rfl, ri, rj⟩ := vals2 r2
    obtain ⟨t1, rfl⟩ := ri
    obtain ⟨t2, rfl⟩ := rj
    exact ⟨a, o, t1, t2, n, rfl, ho, hc, hd⟩
  refine wpAny_bind (wpAny_newList ?_ hal)
  have hoL : (h'.push (seqObj "list" acc'.toList.toArray 0)).get? h'.objs.size = some (seqObj "list" acc'.toList.toArray 0) := Heap.get?_push_size _ rfl
  show wpAny _ _ _ _ _ { s with heap := h'.push (seqObj "list" acc'.toList.toArray 0), toks := tk }
  refine wpAny_bind (wpAny_holding (wpAny_call_entry PyProof.Rows.slot_list_sort ⟨_, hoL, rfl⟩ PyProof.Rows.entry_list_sort
    (SrtO.list_sort_ord (SrtO.swo_lex fun u => kH H (backV u)) (s := { s with heap := h'.push (seqObj "list" acc'.toList.toArray 0), toks := tk }) hoL hal (fun h2 => ?_) fun out h1 h2 => ⟨_, rfl, ?_⟩)
    (PyProof.Rows.args_list_sort _)))
  · refine SrtO.pairs_sortableO (s := { s with heap := h'.push (seqObj "list" acc'.toList.toArray 0), toks := tk }) (by omega) (fun v hm => (hp v hm).keeps fun b o e _ => Heap.get?_push_of_some _ e) fun o e => ?_
    have e' : some o = some (seqObj "list" acc'.toList.toArray 0) := e.symm.trans hoL
    cases e'
    intro c
    exact absurd (Value.type.inj c) (by decide)
  · obtain ⟨n, hn⟩ := PyProof.Rows.sortedHeap_at (vs := acc'.toList) (out := out.toArray) hoL
    have h3 : ∀ u ∈ out, ∃ a, u = Value.ref a := fun u hu => e2 u (h2.perm.mem_iff.mp hu)
    have hb : (out.map backV).Perm ((ks.map fun x => x.2.1).map V.ref) := by rw [← ebk]; exact h2.perm.map _
    refine wpAny_pure ⟨_, rfl, .ref h'.objs.size, upd H h'.objs.size (.lst (out.map backV)), I1.laid (t' := tk) (fun b u e => ?_) (Nat.le_refl _)
      (show ObjOk X.prog X.w _ _ _ (.lst (out.map backV)) from ⟨?_, out, n, vals_back h3, hn⟩), rfl, q _ _ _ hK hb (SrtO.srtd_map (lt := fun u v => SrtO.lexB (kH H u) (kH H v)) h1) (I1.hok.fresh (Nat.le_refl _))⟩
    · have hb : b < h'.objs.size := Heap.lt_size e
      rw [PyProof.Rows.sortedHeap_old (Nat.ne_of_lt hb) (by rw [size_push']; exact Nat.lt_succ_of_lt hb)]
      exact Heap.get?_push_of_some _ e
    · rw [hb.length_eq, List.length_map, List.length_map]; omega
end
end TD

set_option maxHeartbeats 4000000
namespace TD
open PySem PySem.Spec PyProof.Rows L2
/-! ### sorted, over trees -/
def kD2 : D → Int × Int
  | .tup (.int x :: .int y :: _) => (x, y)
  | _ => (0, 0)
abbrev SrtD (ds : List D) : Prop := ds.Pairwise fun u v => SrtO.lexB (kD2 v) (kD2 u) = false
theorem RepL.perm {K : PySem.W.Frag} {P : Hp} {vs us : List V} (h : vs.Perm us) : ∀ {ds : List D}, RepL K P ds vs → ∃ ds', ds'.Perm ds ∧ RepL K P ds' us := by
  induction h with
  | nil => intro ds r; exact ⟨ds, List.Perm.refl _, r⟩
  | cons x _ ih =>
    intro ds r
    cases r with
    | cons r t =>
      obtain ⟨ds', p, t'⟩ := ih t
      exact ⟨_ :: ds', p.cons _, .cons r t'⟩
  | swap x y l =>
    intro ds r
    cases r with
    | cons r t => cases t with
      | cons r2 t => exact ⟨_ :: _ :: _, List.Perm.swap _ _ _, .cons r2 (.cons r t)⟩
  | trans _ _ ih1 ih2 =>
    intro ds r
    obtain ⟨d1, p1, r1⟩ := ih1 r
    obtain ⟨d2, p2, r2⟩ := ih2 r1
    exact ⟨d2, p2.trans p1, r2⟩
theorem kH_rep {K : PySem.W.Frag} {H P : Hp} (per : ∀ a u, P a = some u → H a = some u) {x y : Int} {r : List D} {v : V} (h : Rep K P (.tup (.int x :: .int y :: r)) v) : kH H v = (x, y) := by
  cases h with
  | tup q t =>
    cases t with
    | cons a t => cases t with
      | cons b t =>
        cases a
        cases b
        unfold kH
        dsimp only
        rw [per _ _ q]
theorem srt_rep {K : PySem.W.Frag} {H P : Hp} (per : ∀ a u, P a = some u → H a = some u) : ∀ {ds : List D} {vs : List V}, RepL K P ds vs → (∀ d ∈ ds, ∃ x y r, d = .tup (.int x :: .int y :: r)) → SrtV (kH H) vs → SrtD ds
  | _, _, .nil, _, _ => List.Pairwise.nil
  | d :: ds, v :: vs, .cons r t, hd, hs => by
    obtain ⟨h1, h2⟩ := List.pairwise_cons.mp hs
    refine List.pairwise_cons.mpr ⟨fun e he => ?_, srt_rep per t (fun e he => hd e (List.mem_cons_of_mem _ he)) h2⟩
    obtain ⟨i, hi⟩ := List.getElem?_of_mem he
    obtain ⟨u, hu, ru⟩ := t.get hi
    have := h1 u (List.mem_of_getElem? hu)
    obtain ⟨x, y, rr, rfl⟩ := hd d List.mem_cons_self
    obtain ⟨x', y', rr', rfl⟩ := hd e (List.mem_cons_of_mem _ he)
    rw [kH_rep per r, kH_rep per ru] at this
    exact this
theorem keysL_rep {K : PySem.W.Frag} {P : Hp} : ∀ ks : List L2.Key, RepL K P (ks.map kD) (ks.map kV)
  | [] => .nil
  | k :: r => .cons (kD_rep k) (keysL_rep r)
theorem absorb_keys {K : PySem.W.Frag} {H : Hp} {w : Wd} : ∀ {kvs : List (List L2.Key × V)} {bs : List V} {P : Hp}, RH K H P w → KeysV H kvs bs → ∃ P1, Go K H P w H P1 w ∧ RepL K P1 (kvs.map fun kv => D.tup (kv.1.map kD)) bs
  | _, _, P, rh, .nil => ⟨P, rh.go, .nil⟩
  | kv :: kvs, b :: bs, P, rh, .cons ⟨a, e, ha⟩ r => by
    obtain ⟨P1, g1, h1⟩ := rh.absorb ha
    obtain ⟨P2, g2, h2⟩ := absorb_keys g1.rh r
    refine ⟨P2, g1.trans g2, .cons ?_ h2⟩
    rw [e]
    exact .tup (g2.ex _ _ h1) (keysL_rep _)
def sortT : DRl := fun ds w Q => match ds with
  | [.ref p] => match w p with
    | some (.dT kvs) => (∀ kv ∈ kvs, ∃ x y, kv.1 = [.inl x, .inl y]) ∧ ∀ ds' : List D, ds'.Perm (kvs.map fun kv => D.tup (kv.1.map kD)) → SrtD ds' → Q (.lst ds') w
    | _ => False
  | _ => False
theorem tr_sortT {K : PySem.W.Frag} : TrRl K rSortDT sortT := by
  intro H P w xs ds Q' Q rh r h hq
  unfold sortT at h
  split at h
  · rename_i p
    split at h
    · rename_i kvs hw
      obtain ⟨h1, h2⟩ := h
      obtain ⟨_, ho, q1, kws, rfl, kv⟩ := rh.own p _ hw
      cases r with
      | cons r1 r2 =>
        cases r1
        cases r2
        have ek : kws.map (·.1) = kvs.map (·.1) := (KVr.parts kv).1
        refine ⟨p, kws, rfl, .inl q1, fun kw hkw => ?_, fun bs ys q hK hp hs hn => ?_⟩
        · have : kw.1 ∈ kvs.map (·.1) := by rw [← ek]; exact List.mem_map.mpr ⟨kw, hkw, rfl⟩
          obtain ⟨kv', hkv, e⟩ := List.mem_map.mp this
          rw [← e]; exact h1 kv' hkv
        · obtain ⟨P1, g1, rl⟩ := absorb_keys rh hK
          obtain ⟨ds', pd, rl'⟩ := RepL.perm hp.symm rl
          have em : (kws.map fun kv => D.tup (kv.1.map kD)) = kvs.map fun kv => D.tup (kv.1.map kD) := by
            have := congrArg (List.map fun k : List L2.Key => D.tup (k.map kD)) ek
            rw [List.map_map, List.map_map] at this
            exact this
          rw [em] at pd
          have g2 := g1.rh.newP (o := .lst ys) hn
          refine hq _ w (h2 ds' pd (srt_rep g1.rh.per rl' (fun d hd => ?_) hs)) _ _ _ (g1.trans g2) (.lst upd_same (rl'.mono g2.ex))
          obtain ⟨kv', hkv, e⟩ := List.mem_map.mp (pd.mem_iff.mp hd)
          obtain ⟨x, y, exy⟩ := h1 kv' hkv
          rw [← e, exy]
          exact ⟨x, y, [], rfl⟩
    · exact h.elim
  · exact h.elim
theorem sortT_w {w : Wd} {p : Addr} {kvs : List (List L2.Key × D)} {Q : DKt} (h : w p = some (.dT kvs)) : sortT [.ref p] w Q = ((∀ kv ∈ kvs, ∃ x y, kv.1 = [.inl x, .inl y]) ∧ ∀ ds' : List D, ds'.Perm (kvs.map fun kv => D.tup (kv.1.map kD)) → SrtD ds' → Q (.lst ds') w) := by
  unfold sortT; simp only [h]
abbrev Tr3 := Int × Int × Str
abbrev t3 (e : Tr3) : D := .tup [.int e.1, .int e.2.1, .str e.2.2]
def sort3D : DRl := fun ds w Q => match ds with
  | [d] => ∃ es : List Tr3, d = .lst (es.map t3) ∧ (∀ e ∈ es, ∀ f ∈ es, e.1 = f.1 → e.2.1 = f.2.1 → e.2.2 = f.2.2) ∧ ∀ fs : List Tr3, fs.Perm es → fs.Pairwise (fun e f => SrtO.lexB (f.1, f.2.1) (e.1, e.2.1) = false) → Q (.lst (fs.map t3)) w
  | _ => False
theorem perm_map_inv {α β : Type} {f : α → β} : ∀ {l k : List β}, l.Perm k → ∀ m : List α, k = m.map f → ∃ m' : List α, m'.Perm m ∧ l = m'.map f := by
  intro l k h
  induction h with
  | nil => intro m e; exact ⟨m, List.Perm.refl _, e⟩
  | cons x _ ih =>
    intro m e
    cases m with
    | nil => cases e
    | cons a m =>
      rw [List.map_cons, List.cons.injEq] at e
      obtain ⟨m', p, e'⟩ := ih m e.2
      exact ⟨a :: m', p.cons a, by rw [List.map_cons, e', e.1]⟩
  | swap x y l =>
    intro m e
    match m, e with
    | a :: b :: m, e =>
      simp only [List.map_cons, List.cons.injEq] at e
      exact ⟨b :: a :: m, List.Perm.swap _ _ _, by simp [e.1, e.2.1, e.2.2]⟩
  | trans _ _ ih1 ih2 =>
    intro m e
    obtain ⟨m1, p1, e1⟩ := ih2 m e
    obtain ⟨m2, p2, e2⟩ := ih1 m1 e1
    exact ⟨m2, p2.trans p1, e2⟩
theorem t3_at {K : PySem.W.Frag} {H P : Hp} (per : ∀ a u, P a = some u → H a = some u) {e : Tr3} {v : V} (h : Rep K P (t3 e) v) : ∃ t, v = .ref t ∧ H t = some (.tup [.int e.1, .int e.2.1, .str e.2.2]) ∧ kH H v = (e.1, e.2.1) ∧ zH H v = e.2.2 := by
  have hk := kH_rep per h
  cases h with
  | tup q t =>
    cases t with
    | cons a t => cases t with
      | cons b t => cases t with
        | cons c t =>
          cases t
          cases a
          cases b
          cases c
          have hq := per _ _ q
          refine ⟨_, rfl, hq, hk, ?_⟩
          unfold zH
          dsimp only
          rw [hq]
theorem tr_sort3 {K : PySem.W.Frag} : TrRl K (rSort3 K) sort3D := by
  intro H P w xs ds Q' Q rh r h hq
  unfold sort3D at h
  split at h
  · obtain ⟨es, rfl, h1, h2⟩ := h
    cases r with
    | cons r1 r2 =>
      cases r2
      cases r1 with
      | lst q r =>
        rename_i a vs
        have mem : ∀ x ∈ vs, ∃ e ∈ es, Rep K P (t3 e) x := fun x hx => by
          obtain ⟨i, hi⟩ := List.getElem?_of_mem hx
          obtain ⟨d, hd, rd⟩ := r.get' hi
          obtain ⟨e, he, rfl⟩ := List.mem_map.mp (List.mem_of_getElem? hd)
          exact ⟨e, he, rd⟩
        refine ⟨a, vs, rfl, SqL.of (rh.per _ _ q), fun x hx => ?_, fun x hx y hy hxy => ?_, fun ys p hp hs hn => ?_⟩
        · obtain ⟨e, he, re⟩ := mem x hx
          obtain ⟨t, e1, e2, e3, e4⟩ := t3_at rh.per re
          refine ⟨t, e1, ?_⟩
          rw [e3, e4]; exact e2
        · obtain ⟨e, he, re⟩ := mem x hx
          obtain ⟨f, hf, rf⟩ := mem y hy
          obtain ⟨_, _, _, e3, e4⟩ := t3_at rh.per re
          obtain ⟨_, _, _, f3, f4⟩ := t3_at rh.per rf
          rw [e3, f3] at hxy
          rw [e4, f4]
          exact h1 e he f hf (Prod.mk.inj hxy).1 (Prod.mk.inj hxy).2
        · obtain ⟨ds', pd, rl'⟩ := RepL.perm hp.symm r
          obtain ⟨fs, pf, rfl⟩ := perm_map_inv pd es rfl
          have g2 := rh.newP (o := .lst ys) hn
          refine hq _ w (h2 fs pf ?_) _ _ _ g2 (.lst upd_same (rl'.mono g2.ex))
          have := srt_rep rh.per rl' (fun d hd => by
            obtain ⟨e, _, rfl⟩ := List.mem_map.mp hd
            exact ⟨_, _, _, rfl⟩) hs
          exact List.pairwise_map.mp this
      | _ => rename_i z; cases z
  · exact h.elim
/-- sorted lists of one content are one -/
theorem lex_unique {α : Type} (k : α → Int × Int) : ∀ {l m : List α}, l.Perm m → (∀ x ∈ l, ∀ y ∈ l, k x = k y → x = y) → l.Pairwise (fun e f => SrtO.lexB (k f) (k e) = false) → m.Pairwise (fun e f => SrtO.lexB (k f) (k e) = false) → l = m
  | [], m, h, _, _, _ => by have := h.length_eq; cases m with | nil => rfl | cons b r => simp at this
  | a :: l, [], h, _, _, _ => by have := h.length_eq; simp at this
  | a :: l, b :: m, h, hi, h1, h2 => by
    have e : a = b := by
      have ha : a ∈ b :: m := h.mem_iff.mp List.mem_cons_self
      have hb : b ∈ a :: l := h.mem_iff.mpr List.mem_cons_self
      rcases List.mem_cons.mp ha with z | ha
      · exact z
      rcases List.mem_cons.mp hb with z | hb
      · exact z.symm
      refine hi a List.mem_cons_self b (List.mem_cons_of_mem _ hb) ?_
      have x1 := SrtO.lexB_no.mp ((List.pairwise_cons.mp h1).1 b hb)
      have x2 := SrtO.lexB_no.mp ((List.pairwise_cons.mp h2).1 a ha)
      exact Prod.ext (by omega) (by omega)
    subst e
    rw [lex_unique k h.cons_inv (fun x hx y hy => hi x (List.mem_cons_of_mem _ hx) y (List.mem_cons_of_mem _ hy)) (List.pairwise_cons.mp h1).2 (List.pairwise_cons.mp h2).2]
/-- int(x) of an int or a bool -/
def intD : DRl := fun ds w Q => match ds with
  | [.int i] => Q (.int i) w
  | [.bl b] => Q (.int (if b then 1 else 0)) w
  | _ => False
theorem tr_int {K : PySem.W.Frag} : TrRl K (fun xs H Q => (∃ i, xs = [.int i] ∧ Q (.int i) H) ∨ ∃ k, xs = [.bl k] ∧ Q (.int (if k then 1 else 0)) H) intD := by
  intro H P w xs ds Q' Q rh r h hq
  unfold intD at h
  split at h
  · cases r with
    | cons r1 r2 => cases r1; cases r2; exact .inl ⟨_, rfl, hq _ w h _ H P rh.go (.int _)⟩
  · cases r with
    | cons r1 r2 => cases r1; cases r2; exact .inr ⟨_, rfl, hq _ w h _ H P rh.go (.int _)⟩
  · exact h.elim
theorem intD_b {b : Bool} {w : Wd} {Q : DKt} : intD [.bl b] w Q = Q (.int (if b then 1 else 0)) w := rfl
end TD

set_option maxHeartbeats 4000000
namespace L2
open PySem PySem.Spec PyProof.Rows
section
variable {X : Cx} {pins : List (Addr × Obj)} {σ : St} {H : Hp} {s : Shared} {a b : Addr} {kvs : List (List Key × V)} {k : List Key} {v : V} {A : Around} {E : Value → Shared → Prop}
/-- d.pop(k) of tuple keys, there -/
theorem d_popT1 {Q : Value → Shared → Prop} (hu : A.units + 1 < cLine) (I : Inv X pins σ H s) (ha : H a = some (.dT kvs)) (hb : H b = some (.tup (k.map kV))) (l : valV kvs k = some v)
    (h : ∀ w' s', Inv X pins σ (upd H a (.dT (dropK kvs k))) s' → RelV v w' → Q w' s') : wpAny (model X.prog X.w) A (call (.builtin "dict.pop") [.ref a, .ref b]) Q E s := by
  obtain ⟨z, hd, xs', rel, dd⟩ := dt_of I.hok ha
  have hz : xs'.length ≤ sizeLine := by rw [← Paired.length rel]; exact z
  have r := rel.val k
  rw [l] at r
  refine call_meetsIn PySem.F.slot_dict_pop dd.typeIs PySem.F.entry_dict_pop (PySem.F.args_dict_pop_2 _ _) (meetsH_dict_pop (tupleKind (mixKind X.prog X.w)) a b hd [] (.inl rfl))
    ⟨tupleKind_room_in1 hu, k, xs', key_of I.hok hb, dd, hz, fun p hp h' dd' hs => ?_, fun hn => ?_⟩
  · rw [hp] at r
    obtain ⟨o, es, ep, hq, h2, h3, h4, _, h5⟩ := dd'
    refine h _ _ ?_ r
    exact d_write I (by rw [ha]; exact True.intro) hs ⟨o, hq⟩ ⟨Nat.le_trans (dropK_le kvs k) z, hd, _, (L2.DX.KT_drop k rel).keeps (fun c ys ec => (by rw [upd_ne (ne_of ec ha (fun z => nomatch z))]; exact ec)), o, es, ep, hq, h2, h3, h4, h5⟩
  · rw [hn] at r
    exact (show False from r).elim
end
/-- d.pop(k), there -/
def tDPopA (td ty : TE) : TE := fun σ H Q => td σ H fun x H1 => ∃ a, x = .ref a ∧ IsD H1 a ∧ ty σ H1 fun y H2 => (∃ kvs k v, H2 a = some (.dK kvs) ∧ y = kV k ∧ valV kvs k = some v ∧ Q v (upd H2 a (.dK (dropK kvs k)))) ∨
  ∃ kvs k b v, H2 a = some (.dT kvs) ∧ y = .ref b ∧ H2 b = some (.tup (k.map kV)) ∧ valV kvs k = some v ∧ Q v (upd H2 a (.dT (dropK kvs k)))
theorem pe_dpopA {X : Cx} {o e : Expr} {td ty : TE} {apos cpos : Pos} (hu : X.A.units + 1 < cLine) (ho : PE X o td) (he : PE X e ty) (m : M1 X o "pop" apos e cpos) : PE X (.Call (.Attribute o "pop" apos) [e] [] cpos) (tDPopA td ty) := by
  refine ⟨fun pins s σ H Q I h => ?_⟩
  refine wpAny_Call_method m.base m.few m.line PySem.F.plainAttrs_dict PySem.F.slot_dict_pop PySem.F.type_dict_pop (thn (ho.run pins s σ H _ I h) fun u s1 ⟨x, H1, I1, rx, a, ex, d, q1⟩ => ?_)
  subst ex
  obtain rfl : u = Value.ref a := rx
  obtain ⟨t1, t2, _⟩ := isD_at I1 d
  refine ⟨t1, t2, ?_⟩
  rw [m.trees]
  refine Calls.callWith_builtin rfl (Calls.evalArgs_plain (Calls.spliced_cons (thn (he.run pins s1 σ H1 _ I1 q1) fun iv s2 ⟨y, H2, I2, ry, q2⟩ => Calls.spliced_nil ?_)))
  rcases q2 with ⟨kvs, k, v, ea, ey, l, q2⟩ | ⟨kvs, k, b, v, ea, ey, eb, l, q2⟩
  · subst ey
    exact d_pop I2 ea ry l (.inl rfl) fun w' s3 I3 rw' => ⟨v, _, I3, rw', q2⟩
  · subst ey
    cases ry
    exact d_popT1 hu I2 ea eb l fun w' s3 I3 rw' => ⟨v, _, I3, rw', q2⟩
end L2
namespace TD
open PySem PySem.Spec PyProof.Rows L2
def dPopAt (w : Wd) (x y : D) (k : D → Wd → Prop) : Prop := match x with
  | .ref p => match w p with
    | some (.dK kvs) => match keyD y with
      | some q => match valD kvs q with
        | some d => k d (put w p (.dK (ridK kvs q)))
        | none => False
      | none => False
    | some (.dT kvs) => match y with
      | .tup ds => match keysD ds with
        | some q => match valD kvs q with
          | some d => k d (put w p (.dT (ridK kvs q)))
          | none => False
        | none => False
      | _ => False
    | _ => False
  | _ => False
def dPopK (to ti : DE) : DE := fun S w Q => to S w fun x w1 => isDc w1 x ∧ ti S w1 fun y w2 => dPopAt w2 x y Q
theorem qe_dpop {X : Cx} {W : WX} {W' : DWX} {o e : Expr} {to te : DE} {apos cpos : Pos} {j : Nat} (hr : Room j X.A) (ho : QE X W W' o to) (hi : QE X W W' e te) (m : M1 X o "pop" apos e cpos := by exact ⟨rfl, rfl, rfl, rfl⟩) : QE X W W' (.Call (.Attribute o "pop" apos) [e] [] cpos) (dPopK to te) := PE.imp (pe_dpopA (by have := hr.units; omega) ho hi m)
  fun σ H Q ⟨P, w, S, Q', rh, sl, h, hq, hx⟩ => ⟨P, w, S, _, rh, sl, h, fun d w1 h1 v H1 P1 g1 r1 => by
    obtain ⟨c, rfl, hd⟩ := isDc_ok g1.rh r1 h1.1
    refine ⟨c, rfl, hd, P1, w1, S, _, g1.rh, sl.mono g1.ex, h1.2, fun y w2 h2 u H2 P2 g2 r2 => ?_, hx.go g1⟩
    unfold dPopAt at h2
    split at h2
    · rename_i p
      cases r1
      split at h2
      · rename_i kvs hw
        obtain ⟨_, ho, q1, kws, rfl, kv⟩ := g2.rh.own c _ hw
        split at h2
        · rename_i k hk
          have ek := keyD_ok r2 hk
          subst ek
          split at h2
          · rename_i dv hv
            rcases KVr.val k kv with ⟨d', v', e1, e2, rv⟩ | ⟨e1, _⟩
            · rw [hv] at e1
              cases e1
              have g3 := g2.rh.setW (m := .dK (ridK kvs k)) (o := .dK (dropK kws k)) hw ⟨_, rfl, KVr.rid kv⟩
              exact .inl ⟨kws, k, v', q1, rfl, e2, hq _ _ h2 _ _ _ ((g1.trans g2).trans g3) (rv.mono g3.ex)⟩
            · rw [hv] at e1; cases e1
          · exact h2.elim
        · exact h2.elim
      · rename_i kvs hw
        obtain ⟨_, ho, q1, kws, rfl, kv⟩ := g2.rh.own c _ hw
        split at h2
        · cases r2 with
          | tup q r =>
            split at h2
            · rename_i k hk
              have ek := keysD_ok r hk
              subst ek
              split at h2
              · rename_i dv hv
                rcases KVr.val k kv with ⟨d', v', e1, e2, rv⟩ | ⟨e1, _⟩
                · rw [hv] at e1
                  cases e1
                  have g3 := g2.rh.setW (m := .dT (ridK kvs k)) (o := .dT (dropK kws k)) hw ⟨_, rfl, KVr.rid kv⟩
                  exact .inr ⟨kws, k, _, v', q1, rfl, g2.rh.per _ _ q, e2, hq _ _ h2 _ _ _ ((g1.trans g2).trans g3) (rv.mono g3.ex)⟩
                · rw [hv] at e1; cases e1
              · exact h2.elim
            · exact h2.elim
        · exact h2.elim
      · exact h2.elim
    · exact h2.elim, hx⟩
theorem dPopAt_k {w : Wd} {p : Addr} {kvs : List (L2.Key × D)} {y d : D} {q : L2.Key} {k : D → Wd → Prop} (h : w p = some (.dK kvs)) (hq : keyD y = some q) (hv : valD kvs q = some d) : dPopAt w (.ref p) y k = k d (put w p (.dK (ridK kvs q))) := by
  unfold dPopAt; simp only [h, hq, hv]
theorem dPopAt_t {w : Wd} {p : Addr} {kvs : List (List L2.Key × D)} {d : D} {ds : List D} {q : List L2.Key} {k : D → Wd → Prop} (h : w p = some (.dT kvs)) (hq : keysD ds = some q) (hv : valD kvs q = some d) : dPopAt w (.ref p) (.tup ds) k = k d (put w p (.dT (ridK kvs q))) := by
  unfold dPopAt; simp only [h, hq, hv]
end TD

set_option maxHeartbeats 2000000
namespace TD
open PySem PySem.Spec PyProof.Rows L2
/-! ### a def that is handed the caught exception, called within the except suite -/
theorem call_isP {X : Cx} {a C0 : Addr} {oe : Obj} (C : ExcC X.K C0) (hz : Zc (.ref C0) none oe) (hf : ∃ vs, oe.data = .fields vs) (hp : (a, oe) ∈ X.pn) : CallR X (.builtin "isinstance") (rIsE X.K C0 a) := by
  rintro pins s σ H xs us Q I r ⟨c, cv, b, rfl, hcv, e, q⟩
  cases r with
  | cons rx r1 =>
    cases r1 with
    | cons rt r2 =>
      cases r2
      cases rx
      obtain rfl := hcv _ rt
      have hget := (I.pin (a, oe) (List.mem_append.mpr (.inl hp))).1
      obtain ⟨vs, hv⟩ := hf
      obtain ⟨oc, od, oda, osl⟩ := oe
      obtain ⟨h1, h2⟩ := hz
      dsimp only at h1 h2 hv
      subst h1 h2 hv
      have J : PySem.W.InstAt s.heap a ⟨.ref C0, none, .fields vs, osl⟩ C0 none := ⟨hget, rfl, rfl, trivial⟩
      exact PySem.W.kia_one (PySem.W.handS_kitx_exc C.hg C.hk C.hs C.hd C.ha C.hn C.ht C.hm) I.kIn J e (fun z => nomatch z) fun tk => ⟨.bl b, H, I.kept (t' := tk) fun _ _ z => z, rfl, q⟩
abbrev SpK := Value → Option D → Wd → DKt → Prop
abbrev NoX : XK := fun _ _ _ => False
structure FnK (P : Program) (w : World) (K : PySem.W.Frag) (mg : Str → Option Value) (base : Heap) (k : Nat) (f : Addr) (fd : FuncData) (ps : List Str) (sp : SpK) : Prop where
  run : ∀ (A : Around) (outer : List Env) (s : Shared) (H : Hp) (args : Args) (Q : VK) (p : Addr × Obj) (cl : Value) (d : Option Addr) (x : Option D) (P' : Hp) (w' : Wd) (Q' : DKt),
    L2H.RoomH k A → L2H.Hot1 A p → L2H.PinOk outer H s p → L2N.Zn cl d p.2 → (∃ vs, p.2.data = .fields vs) → (x = none → d = none) → Env0 P w K mg base A outer s H → BindsTo s fd args (ps.zip [.ref p.1]) →
    RH K H P' w' → sp cl x w' Q' → RetOk K H P' w' Q' Q → codeAny (model P w) A (.call (.ref f) args) (CR (L2N.CX P w) outer P w H s Q NoX) s
theorem FnK.of {P : Program} {w : World} {K : PySem.W.Frag} {mg : Str → Option Value} {base : Heap} {x qual : Str} {params : Arguments} {body : List Stmt} {scope : Scope} {dvs : List V} {kws : List (Str × V)} {f : Addr} {fd : FuncData} {N ps : List Str} {k : Nat} {sp : SpK} {t : Addr → Value → Option D → DS}
    (F : FunD K x qual params body scope dvs kws f fd) (Sc : FnScope N ps scope) (h1 : ps.length = 1)
    (bd : ∀ (cdv : Value) (A : Around) (outer : List Env) (s : Shared) (H : Hp) (p : Addr × Obj) (cl : Value) (d : Option Addr) (x : Option D), L2H.RoomH k (A.deeper (envOfC qual scope s.heap.objs.size f cdv)) → L2N.Zn cl d p.2 → (∃ vs, p.2.data = .fields vs) → (x = none → d = none) →
      QSs (L2H.cxH (L2N.CX P w) P w K mg base N qual scope f cdv A outer s H NoX p) W0 DW0 body (t p.1 cl x))
    (red : ∀ a cl x w Q, sp cl x w Q → t a cl x { nx := fun _ w1 => Q .non w1, rt := Q } (startD N [.ref a]) w) : FnK P w K mg base (k + 1) f fd ps sp := by
  obtain ⟨oc, od, dV, kV, doc, pm, an, cdv, ct, osl, rfl, lk, hcd, _, _⟩ := F.ex
  refine ⟨fun A outer s H args Q p cl d x P' w' Q' room hot hpin hz hf hx e0 hb rh hsp hq => ?_⟩
  have inS : K.In s.heap := e0.mod.kin.keeps fun b o e => (e0.bs b o e).1
  have limit : s.heap.NoLimit := e0.mod.nolimit.keeps fun b o e => (e0.bs b o e).1
  have kinds : ∀ y ∈ ps.zip [Value.ref p.1], scope.names.lookup y.1 = some .local ∨ (scope.names.lookup y.1 = some .cell ∧ ((cellsFrom (s.heap.objs.size + 1) scope.names []).lookup y.1).isSome = true) := by
    rintro ⟨n, v⟩ hy
    exact (Sc.par n (List.of_mem_zip hy).1).imp id fun q => ⟨q, PySem.W.cellsFrom_some _ _ _ (.inl q)⟩
  refine codeAny_call_function room.depth (inS _ _ lk) rfl Sc.co Sc.gen rfl (PySem.W.codeRec_of inS hcd) (hb _ _ _ _ (wpAny_newFunctionEnv_cells Sc.kind kinds fun env he s1 y => ?_))
  subst he
  refine ⟨limit.keeps y.toInCall.keep, codeAny_func ?_⟩
  have J0 : Inv (L2H.cxH (L2N.CX P w) P w K mg base N qual scope f cdv A outer s H NoX p) [] (L2.start N [.ref p.1]) H s1 :=
    L2H.inv_startH Sc hpin e0 (by rw [h1]; rfl) (.cons rfl .nil) y
  have go := (bd cdv A outer s H p cl d x (room.deeper _) hz hf hx).run [] s1 (L2.start N [.ref p.1]) H { nx := fun _ H' => Q .non H', rt := Q } J0
    ⟨P', w', startD N [.ref p.1], { nx := fun _ w1 => Q' .non w1, rt := Q' }, rh, slots_start N (.cons (.ref p.1) .nil), red p.1 cl x w' Q' hsp,
      ⟨fun S1 w1 z1 σ1 H1 P1 g1 _ => hq _ w1 z1 _ H1 P1 g1 .non, hq, fun _ _ z => z.elim, fun _ _ z => z.elim⟩, WOk.none⟩
  refine wpAny_mono go (fun fl s' hs => ?_) fun _ _ hs => hs
  cases fl with
  | ret u => obtain ⟨v, σ', H', J, rv, q⟩ := hs; exact ⟨v, H', J.os, J.bare, J.base, J.hok, rv, q⟩
  | next => obtain ⟨σ', H', J, q⟩ := hs; exact ⟨V.non, H', J.os, J.bare, J.base, J.hok, rfl, q⟩
  | brk => obtain ⟨_, _, _, q⟩ := hs; exact q.elim
  | cont => obtain ⟨_, _, _, q⟩ := hs; exact q.elim
structure OwnK (P : Program) (w : World) (K : PySem.W.Frag) (mg : Str → Option Value) (base : Heap) (x : Str) (k : Nat) (ps : List Str) (sp : SpK) : Prop where
  ex : ∃ f fd, FnK P w K mg base k f fd ps sp ∧ mg x = some (.ref f) ∧ PySem.W.keepIn K (.ref f) = true ∧ Binds K fd ps []
  one : ps.length = 1
def dCallK (i : Nat) (a : Addr) (cl : Value) (x : Option D) (sp : SpK) : DE := fun S w Q => S[i]? = some (some (.ref a)) ∧ sp cl x w Q
theorem qe_callK {X : Cx} {a : Addr} {oe : Obj} {pn : List (Addr × Obj)} {cl : Value} {d : Option Addr} {x : Option D} {i k j : Nat} {n y : Str} {ps : List Str} {sp : SpK} {p p1 pos : Pos} (G : OwnK X.prog X.w X.K X.mg X.base y k ps sp) (hr : Room j X.A)
    (hz : L2N.Zn cl d oe) (hf : ∃ vs, oe.data = .fields vs) (hx : x = none → d = none) (hn : PE (X.suite a ((a, oe) :: pn)) (.Name n p1) (tVar i)) (hj : k ≤ j := by first | decide | omega) (hg : Gl X y := by rfl) (hdb : (y == ("__debug__" : Str)) = false := by decide)
    (he : starEach [.Name n p1] X.env = (false, eval (.Name n p1) X.env) :: starEach [] X.env := by rfl) (hpl : (backTo pos (starEach [] X.env)).any (·.1) = false := by rfl) :
    QE (X.suite a ((a, oe) :: pn)) W0 DW0 (.Call (.Name y p) [.Name n p1] [] pos) (dCallK i a cl x sp) := by
  obtain ⟨⟨f, fd, F, hm, hk, hb⟩, h1⟩ := G
  refine ⟨fun pins s σ H Q I ⟨P, w, S, Q', rh, sl, ⟨hs, hsp⟩, hq, _⟩ => ?_⟩
  obtain ⟨v, hv, rv⟩ := sl.2 i _ hs
  cases rv
  refine wpAny_Call_Name_kw (ld_glob (X := X.suite a ((a, oe) :: pn)) I hg hm ?_ hdb)
  refine PySem.W.callWith_K (h₀ := X.base) I.ok.mod.kin hk (thn ((pa_cons hn pa_nil).run pos pins s σ H (fun vs H1 => vs = [.ref a] ∧ H1 = H) I ?_) fun us s1 ⟨vs, H1, I1, r, q1, q2⟩ => ⟨I1.kIn, ?_⟩) he hpl
  · exact ⟨_, hv, rfl, rfl⟩
  · subst q1 q2
    obtain ⟨u, rfl, ru⟩ := r.one
    cases ru
    have b := hb s1 [.ref a] I1.kIn (by rw [List.append_nil, h1]; rfl)
    rw [List.append_nil] at b
    have P1 := I1.pin (a, oe) (List.mem_append_left _ List.mem_cons_self)
    have hpin : L2H.PinOk X.stack H1 s1 (a, oe) := ⟨P1.1, P1.2.1, fun hm => (List.mem_cons.mp (I1.stkSub a hm)).elim P1.2.2.1 P1.2.2.2.1, P1.2.2.2.2⟩
    obtain ⟨vs, hvs⟩ := hf
    have hot : L2H.Hot1 (X.suite a ((a, oe) :: pn)).A (a, oe) := ⟨rfl, vs, hvs, hz.2.2 vs hvs⟩
    have rm : L2H.RoomH k (X.suite a ((a, oe) :: pn)).A := ⟨by have := hr.dp; show X.A.depth + 3 * k + 5 < recursionLimit; omega, by have := hr.un; show X.A.units + 16 * k + 200 < cLine; omega⟩
    refine wpAny_call (codeAny_mono (F.run (X.suite a ((a, oe) :: pn)).A X.stack s1 H1 ⟨[.ref a], []⟩ Q (a, oe) cl d x P w Q' rm hot hpin hz ⟨vs, hvs⟩ hx I1.env0 b rh hsp hq) fun r s' hq' => ?_)
    cases r with
    | error e => exact L2N.passAt (X := X.suite a ((a, oe) :: pn)) tk0 σ pins H1 s1 e s' I1 hq'
    | ok fl =>
      cases fl with
      | ret u => exact I1.after hq'
      | next => exact hq'.elim
      | brk => exact hq'.elim
      | cont => exact hq'.elim
/-! ### within such a def -/
section
variable {X : Cx} {W : WX} {W' : DWX} {ta tb : DE} {e1 e2 : Expr} {pos : Pos}
theorem qe_isPv {a : Addr} {oe : Obj} {cl : Value} {d : Option Addr} {x : Option D} {i : Nat} {n y : Str} {p p1 p2 : Pos} {cv : Value} {vv : V} (hp : (a, oe) ∈ X.pn) (hz : L2N.Zn cl d oe) (hf : ∃ vs, oe.data = .fields vs) (hx : x = none → d = none)
    (hy : PE X (.Name y p2) (tC vv)) (hu : ∀ u, RelV vv u → u = cv) (hn : PE X (.Name n p1) (tVar i)) (hm : X.mg "isinstance" = none) (hg : Gl X "isinstance" := by rfl)
    (he : starEach [.Name n p1, .Name y p2] X.env = (false, eval (.Name n p1) X.env) :: starEach [.Name y p2] X.env := by rfl) (hpl : (backTo pos (starEach [.Name y p2] X.env)).any (·.1) = false := by rfl) :
    QE X W W' (.Call (.Name "isinstance" p) [.Name n p1, .Name y p2] [] pos) (dIsE X.K i a cl x cv) := by
  refine ⟨fun pins s σ H Q I h => ?_⟩
  obtain ⟨P, w, S, Q', rh, sl, ⟨hs, h0, C, b, rfl, hC, hk, hq⟩, hr, _⟩ := h
  obtain ⟨v, hv, rv⟩ := sl.2 i _ hs
  cases rv
  have hd := hx h0
  subst hd
  exact (pe_callB (call_isP hC hz.zc hf hp) hg hm (by decide +kernel) (pa_cons hn (pa_cons hy pa_nil)) (by decide) (by decide) he hpl).run pins s σ H Q I ⟨_, hv, vv, cv, b, rfl, hu, hk, hr _ w hq _ H P rh.go (.bl b)⟩
theorem qe_isP {a : Addr} {oe : Obj} {cl : Value} {d : Option Addr} {x : Option D} {i : Nat} {n y : Str} {p p1 p2 : Pos} (hp : (a, oe) ∈ X.pn) (hz : L2N.Zn cl d oe) (hf : ∃ vs, oe.data = .fields vs) (hx : x = none → d = none)
    (f : XF X.K X.mg y) (hn : PE X (.Name n p1) (tVar i)) (hm : X.mg "isinstance" = none) (hgy : Gl X y := by rfl) (hdy : (y == ("__debug__" : Str)) = false := by decide) (hg : Gl X "isinstance" := by rfl)
    (he : starEach [.Name n p1, .Name y p2] X.env = (false, eval (.Name n p1) X.env) :: starEach [.Name y p2] X.env := by rfl) (hpl : (backTo pos (starEach [.Name y p2] X.env)).any (·.1) = false := by rfl) :
    QE X W W' (.Call (.Name "isinstance" p) [.Name n p1, .Name y p2] [] pos) (dIsE X.K i a cl x (cls X.K y)) :=
  qe_isPv hp hz hf hx (pe_glob (v := .ref (He.ga X.K y)) hgy f.g rfl hdy) (fun _ r => r) hn hm hg he hpl
def neI : DR2 := fun x y w Q => match x, y with
  | .int i, .int j => Q (.bl (!decide (i = j))) w
  | _, _ => False
theorem tr_neI {K : PySem.W.Frag} : TrR2 K rNe neI := by
  intro H P w x y dx dy Q' Q rh rx ry h hq
  unfold neI at h
  split at h
  · rename_i i j
    cases rx
    cases ry
    refine ⟨rfl, ?_⟩
    have e : decide (V.int i = V.int j) = decide (i = j) := by rw [Bool.eq_iff_iff]; simp
    rw [e]
    exact hq _ w h _ H P rh.go (.bl _)
  · exact h.elim
theorem qt_neI (ha : QE X W W' e1 ta) (hb : QE X W W' e2 tb) : QT X W W' (.Compare e1 [.NotEq] [e2] pos) (dB (dOp neI ta tb)) := qt_cmp op_ne tr_neI ha hb
def ixH : DR2 := fun x y w Q => match x, y with
  | .lst xs, .int i => match atI xs i with
    | some d => Q d w
    | none => False
  | _, _ => False
theorem tr_ixH {K : PySem.W.Frag} : TrR2 K (rIxL K) ixH := by
  intro H P w x y dx dy Q' Q rh rx ry h hq
  unfold ixH at h
  split at h
  · rename_i xs i
    cases ry
    cases rx with
    | lst q r =>
      split at h
      · rename_i d hd
        obtain ⟨v, hv, rv⟩ := atI_rep r hd
        exact ⟨_, _, i, v, rfl, rfl, SqL.of (rh.per _ _ q), hv, hq _ w h _ H P rh.go rv⟩
      · exact h.elim
  · exact h.elim
theorem qe_ixH (ha : QE X W W' e1 ta) (hb : QE X W W' e2 tb) (hs : PlainIx e2 := by exact fun _ _ => rfl) : QE X W W' (.Subscript e1 e2 pos) (dOp ixH ta tb) := qe_ix ix_list tr_ixH ha hb hs
end
end TD

set_option maxHeartbeats 2000000
namespace TD
open PySem PySem.Spec PyProof.Rows L2
/-! ### nodes become persistent, down to the leaves -/
mutual
inductive Fz : Wd → D → D → Wd → Prop
  | keep {w : Wd} {d : D} : Fz w d d w
  | lst {w w' : Wd} {a : Addr} {ds ds' : List D} : w a = some (.lst ds) → FzL (rid w a) ds ds' w' → Fz w (.ref a) (.lst ds') w'
  | dK {w w' : Wd} {a : Addr} {kvs : List (Key × D)} {ds' : List D} : w a = some (.dK kvs) → FzL (rid w a) (kvs.map (·.2)) ds' w' → Fz w (.ref a) (.dct (kvs.map (·.1)) ds') w'
  | dT {w w' : Wd} {a : Addr} {kvs : List (List Key × D)} {ds' : List D} : w a = some (.dT kvs) → FzL (rid w a) (kvs.map (·.2)) ds' w' → Fz w (.ref a) (.dtt (kvs.map (·.1)) ds') w'
  | ins {w w' : Wd} {a C : Addr} {fs : List (Str × D)} {ds' : List D} : w a = some (.ins C fs) → FzL (rid w a) (fs.map (·.2)) ds' w' → Fz w (.ref a) (.obj C (fs.map (·.1)) ds') w'
inductive FzL : Wd → List D → List D → Wd → Prop
  | nil {w : Wd} : FzL w [] [] w
  | cons {w w1 w2 : Wd} {d d' : D} {ds ds' : List D} : Fz w d d' w1 → FzL w1 ds ds' w2 → FzL w (d :: ds) (d' :: ds') w2
end
theorem KVr.keys {K : PySem.W.Frag} {P : Hp} {κ : Type} : ∀ {l : List (κ × D)} {m : List (κ × V)}, KVr K P l m → l.map (·.1) = m.map (·.1) ∧ RepL K P (l.map (·.2)) (m.map (·.2))
  | _, _, .nil => ⟨rfl, .nil⟩
  | _ :: _, _ :: _, .cons h r => by
    obtain ⟨e1, e2⟩ := KVr.keys r
    exact ⟨by rw [List.map_cons, List.map_cons, e1, h.1], .cons h.2 e2⟩
section
variable {K : PySem.W.Frag} {H : Hp}
mutual
theorem Fz.ok {w w' : Wd} {d d' : D} : Fz w d d' w' → ∀ {P : Hp}, RH K H P w → ∃ P', Go K H P w H P' w' ∧ ∀ v, Rep K P d v → Rep K P' d' v
  | .keep, P, rh => ⟨P, rh.go, fun _ h => h⟩
  | .lst (a := a) hw hl, P, rh => by
    obtain ⟨hp, ho, hh, vs, rfl, r⟩ := rh.own a _ hw
    have g := rh.frz hw hh
    obtain ⟨P', g', f⟩ := FzL.ok hl g.rh
    refine ⟨P', g.trans g', fun v hv => ?_⟩
    cases hv
    exact .lst (g'.ex _ _ upd_same) (f _ (r.mono g.ex))
  | .dK (a := a) hw hl, P, rh => by
    obtain ⟨hp, ho, hh, vs, rfl, r⟩ := rh.own a _ hw
    have g := rh.frz hw hh
    obtain ⟨P', g', f⟩ := FzL.ok hl g.rh
    refine ⟨P', g.trans g', fun v hv => ?_⟩
    cases hv
    obtain ⟨e1, e2⟩ := KVr.keys r
    rw [e1]
    exact .dct (g'.ex _ _ upd_same) (f _ (e2.mono g.ex))
  | .dT (a := a) hw hl, P, rh => by
    obtain ⟨hp, ho, hh, vs, rfl, r⟩ := rh.own a _ hw
    have g := rh.frz hw hh
    obtain ⟨P', g', f⟩ := FzL.ok hl g.rh
    refine ⟨P', g.trans g', fun v hv => ?_⟩
    cases hv
    obtain ⟨e1, e2⟩ := KVr.keys r
    rw [e1]
    exact .dtt (g'.ex _ _ upd_same) (f _ (e2.mono g.ex))
  | .ins (a := a) hw hl, P, rh => by
    obtain ⟨hp, ho, hh, dx, gs, rfl, r, ow⟩ := rh.own a _ hw
    have g := rh.frz hw hh
    obtain ⟨P', g', f⟩ := FzL.ok hl g.rh
    refine ⟨P', g.trans g', fun v hv => ?_⟩
    cases hv
    obtain ⟨e1, e2⟩ := KVr.keys r
    rw [e1]
    exact .obj (g'.ex _ _ upd_same) (g'.ex _ _ (g.ex _ _ ow)) (f _ (e2.mono g.ex))
theorem FzL.ok {w w' : Wd} {ds ds' : List D} : FzL w ds ds' w' → ∀ {P : Hp}, RH K H P w → ∃ P', Go K H P w H P' w' ∧ ∀ vs, RepL K P ds vs → RepL K P' ds' vs
  | .nil, P, rh => ⟨P, rh.go, fun _ h => h⟩
  | .cons h1 h2, P, rh => by
    obtain ⟨P1, g1, f1⟩ := Fz.ok h1 rh
    obtain ⟨P2, g2, f2⟩ := FzL.ok h2 g1.rh
    refine ⟨P2, g1.trans g2, fun vs hv => ?_⟩
    cases hv with
    | cons a b => exact .cons ((f1 _ a).mono g2.ex) (f2 _ (b.mono g1.ex))
end
end
theorem RH.forget {K : PySem.W.Frag} {H P : Hp} {w w' : Wd} (rh : RH K H P w) (g : ∀ a n, w' a = some n → w a = some n) : Go K H P w H P w' :=
  ⟨Ex.refl P, ⟨rh.per, fun a n h => rh.own a n (g a n h)⟩, fun a u _ h1 h2 h3 => ⟨h1, h2, by
    cases e : w' a with
    | none => rfl
    | some n => rw [g a n e] at h3; cases h3⟩⟩
/-- the value becomes persistent; nodes may be forgotten -/
def dFz (te : DE) : DE := fun S w Q => te S w fun d w1 => ∃ d' w2 w3, Fz w1 d d' w2 ∧ (∀ a n, w3 a = some n → w2 a = some n) ∧ Q d' w3
theorem qe_fz {X : Cx} {W : WX} {W' : DWX} {e : Expr} {te : DE} (h : QE X W W' e te) : QE X W W' e (dFz te) := PE.imp h
  fun σ H Q ⟨P, w, S, Q', rh, sl, h, hq, hx⟩ => ⟨P, w, S, _, rh, sl, h, fun d w1 ⟨d', w2, w3, hz, hg, q⟩ v H1 P1 g1 r1 => by
    obtain ⟨P2, g2, f⟩ := hz.ok g1.rh
    have g3 := g2.rh.forget hg
    exact hq d' w3 q v H1 P2 ((g1.trans g2).trans g3) (f v r1), hx⟩
/-! ### dict displays with written texts as keys -/
def dDisp (ks : List Str) (t : DA) : DE := fun S w Q => ∀ p, w p = none → t S (put w p (.dK [])) fun ds w1 => ks.Nodup ∧ ks.length = ds.length ∧ ks.length ≤ 15 ∧ w1 p = some (.dK []) ∧ Q (.ref p) (put w1 p (.dK ((ks.map Sum.inr).zip ds)))
def pairsV (ks : List Str) (vs : List V) : List (Key × V) := (ks.map Sum.inr).zip vs
def QD (X : Cx) (W : WX) (W' : DWX) (pos : Pos) (keys : List (Option Expr)) (values : List Expr) (ks : List Str) (t : DA) : Prop :=
  ∃ trs, PPs X pos keys values trs ∧ ∀ σ H (R : List (V × V) → Hp → Prop), liftA X.K W W' t σ H (fun vs H' => R ((pairsV ks vs).map (fun kv => (kV kv.1, kv.2))) H') → tPairs trs σ H R
theorem qd_nil {X : Cx} {W : WX} {W' : DWX} {pos : Pos} : QD X W W' pos [] [] [] dNil := ⟨[], pps_nil, fun σ H Q ⟨P, w, S, Q', rh, sl, h, hq, hx⟩ => hq [] w h [] H P rh.go .nil⟩
theorem qd_cons {X : Cx} {W : WX} {W' : DWX} {pos : Pos} {z : Str} {j : Nat} {kp : Pos} {v : Expr} {keys : List (Option Expr)} {values : List Expr} {ks : List Str} {te : DE} {t : DA} (hv : QE X W W' v te) (hr : QD X W W' pos keys values ks t) :
    QD X W W' pos (some (.Constant (.str z) j kp) :: keys) (v :: values) (z :: ks) (dCons te t) := by
  obtain ⟨trs, hp, hm⟩ := hr
  refine ⟨(tC (.str z), liftE X.K W W' te) :: trs, pps_cons pe_str hv hp, fun σ H R ⟨P, w, S, Q', rh, sl, h, hq, hx⟩ => ?_⟩
  show liftE X.K W W' te σ H _
  refine ⟨P, w, S, _, rh, sl, h, fun d w1 h1 v1 H1 P1 g1 r1 => ?_, hx⟩
  exact hm σ H1 (fun ps H3 => R ((V.str z, v1) :: ps) H3) ⟨P1, w1, S, _, g1.rh, sl.mono g1.ex, h1, fun ds w2 h2 vs H2 P2 g2 r2 => hq _ w2 h2 _ H2 P2 (g1.trans g2) (.cons (r1.mono g2.ex) r2), hx.go g1⟩
theorem merge_new : ∀ (more acc : List (Key × V)), ((acc ++ more).map (·.1)).Nodup → mergeK acc more = acc ++ more
  | [], acc, _ => (List.append_nil acc).symm
  | (k, v) :: r, acc, h => by
    have hk : valV acc k = none := by
      cases e : valV acc k with
      | none => rfl
      | some u =>
        have hm := valV_in e
        rw [List.map_append, List.nodup_append] at h
        exact (h.2.2 k hm k (List.mem_cons_self ..) rfl).elim
    show mergeK (putK acc k v) r = _
    rw [putK_new v hk, merge_new r (acc ++ [(k, v)]) (by rw [List.append_assoc]; exact h), List.append_assoc]
    rfl
theorem zip_keys {α β : Type} : ∀ {l : List α} {m : List β}, l.length = m.length → (l.zip m).map (·.1) = l
  | [], _, _ => rfl
  | _ :: _, [], h => by simp at h
  | a :: l, b :: m, h => by rw [List.zip_cons_cons, List.map_cons, zip_keys (by simpa using h)]
theorem kvr_zip {K : PySem.W.Frag} {P : Hp} {κ : Type} : ∀ {ks : List κ} {ds : List D} {vs : List V}, RepL K P ds vs → KVr K P (ks.zip ds) (ks.zip vs)
  | [], _, _, _ => by rw [List.zip_nil_left, List.zip_nil_left]; exact .nil
  | _ :: _, _, _, .nil => by rw [List.zip_nil_right, List.zip_nil_right]; exact .nil
  | k :: ks, _, _, .cons a b => by rw [List.zip_cons_cons, List.zip_cons_cons]; exact .cons ⟨rfl, a⟩ (kvr_zip b)
theorem nodup_inr {ks : List Str} (h : ks.Nodup) : (ks.map (Sum.inr : Str → Key)).Nodup := by
  induction h with
  | nil => exact List.nodup_nil
  | cons a _ ih =>
    rw [List.map_cons]
    refine List.nodup_cons.mpr ⟨fun hm => ?_, ih⟩
    obtain ⟨y, hy, e⟩ := List.mem_map.mp hm
    cases e
    exact a _ hy rfl
theorem qe_disp {X : Cx} {W : WX} {W' : DWX} {pos : Pos} {keys : List (Option Expr)} {values : List Expr} {ks : List Str} {t : DA} (h : QD X W W' pos keys values ks t) (hall : keys.all (·.isSome) = true := by rfl) (hl : keys.length = values.length := by rfl) (h0 : keys ≠ [] := by simp)
    (h15 : keys.length ≤ 15 := by decide) : QE X W W' (.Dict keys values pos) (dDisp ks t) := by
  obtain ⟨trs, hp, hm⟩ := h
  refine PE.imp (pe_disp hp hall hl h0 h15) fun σ H Q ⟨P, w, S, Q', rh, sl, h, hq, hx⟩ p hpn => ?_
  have g0 := rh.newW (o := .dK []) (n := .dK []) hpn ⟨[], rfl, .nil⟩
  refine hm σ _ _ ⟨P, put w p (.dK []), S, _, g0.rh, sl, h p (rh.free hpn).2, fun ds w1 ⟨hn, hlen, hle, hw, q⟩ vs H1 P1 g1 r1 => ?_, hx.go g0⟩
  obtain ⟨_, ho, hh, kws, rfl, kr⟩ := g1.rh.own p _ hw
  cases kr
  have el : ks.length = vs.length := by rw [hlen, r1.length]
  have hk : (pairsV ks vs).map (·.1) = ks.map Sum.inr := zip_keys (by rw [List.length_map]; exact el)
  refine ⟨hh, pairsV ks vs, rfl, by unfold pairsV; rw [List.length_zip, List.length_map]; omega, ?_⟩
  have em : mergeK [] (pairsV ks vs) = pairsV ks vs := merge_new (pairsV ks vs) [] (by rw [List.nil_append, hk]; exact nodup_inr hn)
  rw [em]
  have g2 := g1.rh.setW (o := .dK (pairsV ks vs)) (m := .dK ((ks.map Sum.inr).zip ds)) hw ⟨_, rfl, kvr_zip r1⟩
  exact hq _ _ q _ _ _ ((g0.trans g1).trans g2) (.ref p)
/-! ### dict(d) -/
def HashApart (ks : List (List Key)) : Prop := ∀ (P : Program) (w : World), (ks.map fun k => (tupleKind (mixKind P w)).hash k).Nodup
theorem hash_nil : HashApart [] := fun _ _ => List.nodup_nil
theorem hash_one (k : List Key) : HashApart [k] := fun _ _ => by simp
section
variable {X : Cx}
theorem KT.keys {H : Hp} : ∀ {kvs : List (List Key × V)} {xs : List (List Key × Addr × Value)}, KT H kvs xs → xs.map (·.1) = kvs.map (·.1)
  | _, _, .nil => rfl
  | _ :: _, _ :: _, .cons h r => by rw [List.map_cons, List.map_cons, KT.keys r, h.1]
theorem call_dictT (hu : X.A.units + 64 < cLine) : CallR X (.type "dict") (fun xs H Q => ∃ (a : Addr) (kvs : List (List Key × V)), xs = [.ref a] ∧ Rd H a (.dT kvs) ∧ HashApart (kvs.map (·.1)) ∧ ∀ p, H p = none → Q (.ref p) (upd H p (.dT kvs))) := by
  rintro pins s σ H xs us Q I r ⟨a, kvs, rfl, hd, hap, q⟩
  obtain ⟨u, rfl, rx⟩ := r.one
  cases rx
  obtain ⟨z, lo, ks, pr, hD⟩ := dt_rd I.hok hd
  have hk := KT.keys pr
  have hln : ks.length = kvs.length := (Paired.length pr).symm
  have hnew : (s.heap.push { cls := .type "dict", data := .dict #[] }).DictOfH (tupleKind (mixKind X.prog X.w)) s.heap.objs.size [] := Heap.DictOfH.new s.heap
  have hD' : (s.heap.push { cls := .type "dict", data := .dict #[] }).DictOfH (tupleKind (mixKind X.prog X.w)) a ks := by
    obtain ⟨o, es, ep, h1, h2, h3, h4, h5, h6⟩ := hD
    exact ⟨o, es, ep, Heap.get?_push_of_some _ h1, h2, h3, h4, fun x hx => tupleKind_stays.stays (fun b o' _ _ e _ => Heap.get?_push_of_some _ e) (h5 x hx), h6⟩
  have hne : s.heap.objs.size ≠ a := by
    obtain ⟨o, es, ep, h1, _⟩ := hD
    intro e
    exact absurd (Heap.lt_size h1) (by rw [e]; exact Nat.lt_irrefl _)
  have lo2 : (s.heap.objs.size == sysModules) = false := beq_eq_false_iff_ne.mpr (Nat.ne_of_gt I.big)
  refine callType_codes (Q₁ := fun ob s1 => ob = .ref s.heap.objs.size ∧ s1 = { s with heap := s.heap.push { cls := .type "dict", data := .dict #[] } }) F.kt_called_dict (F.kt_typeCall_dict_1 (.ref a)) F.entry_dict_init (kt_code_dict_new (.ref a) ⟨rfl, rfl⟩) ?_
  rintro ob s1 ⟨rfl, rfl⟩
  refine ⟨hnew.typeIs, F.args_dict_init_2 _ (.ref a), ?_⟩
  unfold Builtin.«dict.__init__» Builtin.Dict.selfAndRest
  refine wpAny_bind (wpAny_bind (wpAny_notOrdered_dict hnew.typeIs (show wpAny _ _ (pure (s.heap.objs.size, [Value.ref a])) _ _ _ from wpAny_pure ?_)))
  refine updateFrom_dictH (A := X.A.in1) .none (by show X.A.in1.in1.units < cLine; have e : X.A.in1.in1.units = X.A.units + 2 := rfl; omega) hne lo hnew hD' (.inr ⟨fun x hx => tupleKind_stays.tuple (?_ : (tupleKind (mixKind X.prog X.w)).is _ x.1 x.2.1), ?_⟩) (by simp only [List.length_nil]; omega) fun h' e1 e2 e3 => ?_
  · obtain ⟨o, es, ep, h1, h2, h3, h4, h5, h6⟩ := hD'
    exact h5 x hx
  · have := hap X.prog X.w
    rw [← hk, List.map_map] at this
    exact this
  · rw [storedAllH_nil_of_nodup ks hD.nodup] at e1
    obtain ⟨o, es, ep, h1, h2, h3, h4, h5, h6⟩ := e1
    refine ⟨rfl, .ref s.heap.objs.size, upd H s.heap.objs.size (.dT kvs), I.laid (t' := s.toks) (fun b u e => (e3.2 b (Nat.ne_of_lt (Heap.lt_size e))).trans (Heap.get?_push_of_some _ e)) (Nat.le_refl _) ?_, rfl, q _ (I.hok.fresh (Nat.le_refl _))⟩
    have nn : H s.heap.objs.size = none := I.hok.fresh (Nat.le_refl _)
    exact ⟨z, lo2, ks, Paired.mapP pr fun _ _ hh => ⟨hh.1, by rw [upd_ne (ne_of_none hh.2.1 nn)]; exact hh.2.1, hh.2.2⟩, o, es, ep, h1, h2, h3, h4, h6⟩
/-- dict(d), d read either way; the copy kept or not -/
def copyK (own : Bool) : DRl := fun ds w Q => match ds with
  | [d] => match getK w d with
    | some kvs => if own = true then ∀ p, w p = none → Q (.ref p) (put w p (.dK kvs)) else Q (.dct (kvs.map (·.1)) (kvs.map (·.2))) w
    | none => False
  | _ => False
def copyT (own : Bool) : DRl := fun ds w Q => match ds with
  | [d] => match getKT w d with
    | some kvs => HashApart (kvs.map (·.1)) ∧ if own = true then ∀ p, w p = none → Q (.ref p) (put w p (.dT kvs)) else Q (.dtt (kvs.map (·.1)) (kvs.map (·.2))) w
    | none => False
  | _ => False
theorem tr_copyK {K : PySem.W.Frag} {own : Bool} : TrRl K (fun xs H Q => ∃ (a : Addr) (kvs : List (Key × V)), xs = [.ref a] ∧ Rd H a (.dK kvs) ∧ ∀ p, H p = none → Q (.ref p) (upd H p (.dK kvs))) (copyK own) := by
  intro H P w xs ds Q' Q rh rs h hq
  unfold copyK at h
  split at h
  · rename_i d
    split at h
    · rename_i kvs hk
      cases rs with
      | cons r1 r2 =>
        cases r2
        obtain ⟨a, kws, rfl, hrd, kr⟩ := getK_at rh r1 hk
        refine ⟨a, kws, rfl, hrd, fun p hp => ?_⟩
        cases own with
        | true => exact hq _ _ (h p (rh.free hp).2) _ _ _ (rh.newW (o := .dK kws) (n := .dK kvs) hp ⟨_, rfl, kr⟩) (.ref p)
        | false =>
          have g := rh.newP (o := .dK kws) hp
          obtain ⟨e1, e2⟩ := KVr.keys kr
          refine hq _ _ h _ _ _ g ?_
          rw [e1]
          exact .dct upd_same (e2.mono g.ex)
    · exact h.elim
  · exact h.elim
theorem tr_copyT {K : PySem.W.Frag} {own : Bool} : TrRl K (fun xs H Q => ∃ (a : Addr) (kvs : List (List Key × V)), xs = [.ref a] ∧ Rd H a (.dT kvs) ∧ HashApart (kvs.map (·.1)) ∧ ∀ p, H p = none → Q (.ref p) (upd H p (.dT kvs))) (copyT own) := by
  intro H P w xs ds Q' Q rh rs h hq
  unfold copyT at h
  split at h
  · rename_i d
    split at h
    · rename_i kvs hk
      cases rs with
      | cons r1 r2 =>
        cases r2
        obtain ⟨a, kws, rfl, hrd, kr⟩ := getKT_at rh r1 hk
        obtain ⟨e1, e2⟩ := KVr.keys kr
        obtain ⟨ha, h⟩ := h
        refine ⟨a, kws, rfl, hrd, by rw [← e1]; exact ha, fun p hp => ?_⟩
        cases own with
        | true => exact hq _ _ (h p (rh.free hp).2) _ _ _ (rh.newW (o := .dT kws) (n := .dT kvs) hp ⟨_, rfl, kr⟩) (.ref p)
        | false =>
          have g := rh.newP (o := .dT kws) hp
          refine hq _ _ h _ _ _ g ?_
          rw [e1]
          exact .dtt upd_same (e2.mono g.ex)
    · exact h.elim
  · exact h.elim
theorem copyK_w {w : Wd} {p : Addr} {kvs : List (Key × D)} {own : Bool} {Q : DKt} (h : w p = some (.dK kvs)) : copyK own [.ref p] w Q = (if own = true then ∀ p, w p = none → Q (.ref p) (put w p (.dK kvs)) else Q (.dct (kvs.map (·.1)) (kvs.map (·.2))) w) := by
  unfold copyK getK; simp only [h]
theorem copyT_w {w : Wd} {p : Addr} {kvs : List (List Key × D)} {own : Bool} {Q : DKt} (h : w p = some (.dT kvs)) : copyT own [.ref p] w Q = (HashApart (kvs.map (·.1)) ∧ if own = true then ∀ p, w p = none → Q (.ref p) (put w p (.dT kvs)) else Q (.dtt (kvs.map (·.1)) (kvs.map (·.2))) w) := by
  unfold copyT getKT; simp only [h]
end
end TD

set_option maxHeartbeats 2000000
namespace TD
open PySem PySem.Spec PyProof.Rows L2
/-! ### a store laid over another -/
def ov (w : Wd) (l : List (Addr × Nd)) : Wd := fun b => match l.lookup b with
  | some n => some n
  | none => w b
section
variable {w : Wd} {l : List (Addr × Nd)} {a q : Addr} {n m : Nd}
theorem ov_nil : ov w [] = w := rfl
theorem ov_cons : ov w ((a, n) :: l) = put (ov w l) a n := by
  funext b
  unfold ov put
  by_cases h : b = a
  · have e : (b == a) = true := beq_iff_eq.mpr h
    simp only [List.lookup, e, if_pos h]
  · have e : (b == a) = false := beq_eq_false_iff_ne.mpr h
    simp only [List.lookup, e, if_neg h]
theorem lookup_none {b : Addr} : ∀ {l : List (Addr × Nd)}, b ∉ l.map (·.1) → l.lookup b = none
  | [], _ => rfl
  | (c, n) :: r, h => by
    rw [List.map_cons, List.mem_cons, not_or] at h
    have e : (b == c) = false := beq_eq_false_iff_ne.mpr h.1
    simp only [List.lookup, e]
    exact lookup_none h.2
theorem ov_out (h : q ∉ l.map (·.1)) : ov w l q = w q := by
  unfold ov; rw [lookup_none h]
theorem ov_at {i : Nat} (hn : (l.map (·.1)).Nodup) (hi : l[i]? = some (a, n)) : ov w l a = some n := by
  induction l generalizing i with
  | nil => simp at hi
  | cons x r ih =>
    obtain ⟨c, k⟩ := x
    rw [ov_cons]
    rw [List.map_cons, List.nodup_cons] at hn
    cases i with
    | zero =>
      rw [List.getElem?_cons_zero] at hi
      cases hi
      exact put_same
    | succ i =>
      rw [List.getElem?_cons_succ] at hi
      have hm : a ∈ r.map (·.1) := List.mem_map.mpr ⟨_, List.mem_of_getElem? hi, rfl⟩
      have ne : a ≠ c := fun z => hn.1 (by rw [← z]; exact hm)
      rw [put_ne ne]
      exact ih hn.2 hi
theorem ov_put {i : Nat} (hn : (l.map (·.1)).Nodup) (hi : l[i]? = some (a, m)) : put (ov w l) a n = ov w (l.set i (a, n)) := by
  induction l generalizing i with
  | nil => simp at hi
  | cons x r ih =>
    obtain ⟨c, k⟩ := x
    rw [List.map_cons, List.nodup_cons] at hn
    cases i with
    | zero =>
      rw [List.getElem?_cons_zero] at hi
      cases hi
      rw [List.set_cons_zero, ov_cons, ov_cons, put_put]
    | succ i =>
      rw [List.getElem?_cons_succ] at hi
      have hm : a ∈ r.map (·.1) := List.mem_map.mpr ⟨_, List.mem_of_getElem? hi, rfl⟩
      have ne : a ≠ c := fun z => hn.1 (by rw [← z]; exact hm)
      rw [List.set_cons_succ, ov_cons, ov_cons, ← ih hn.2 hi, put_comm ne]
theorem set_keys {i : Nat} (hi : l[i]? = some (a, m)) : (l.set i (a, n)).map (·.1) = l.map (·.1) := by
  rw [List.map_set]
  apply List.ext_getElem?
  intro j
  rw [List.getElem?_set]
  split
  · next e =>
    subst e
    rw [List.getElem?_map, hi]
    obtain ⟨hl, _⟩ := List.getElem?_eq_some_iff.mp hi
    rw [List.length_map, if_pos hl]
    rfl
  · rfl
/-- a new node -/
theorem ov_new (h : ov w l q = none) : q ∉ l.map (·.1) ∧ w q = none := by
  have hm : q ∉ l.map (·.1) := by
    intro hm
    obtain ⟨⟨c, k⟩, hx, e⟩ := List.mem_map.mp hm
    dsimp only at e
    subst e
    revert h hx
    clear hm
    induction l with
    | nil => intro hx _; cases hx
    | cons x r ih =>
      obtain ⟨c', k'⟩ := x
      intro hx h
      rw [ov_cons] at h
      by_cases e : c = c'
      · subst e; rw [put_same] at h; cases h
      · rw [put_ne e] at h
        rcases List.mem_cons.mp hx with z | z
        · cases z; exact e rfl
        · exact ih z h
  exact ⟨hm, by rw [ov_out hm] at h; exact h⟩
theorem ov_app (h : q ∉ l.map (·.1)) : put (ov w l) q n = ov w (l ++ [(q, n)]) := by
  induction l with
  | nil => rw [List.nil_append, ov_cons, ov_nil]
  | cons x r ih =>
    obtain ⟨c, k⟩ := x
    rw [List.map_cons, List.mem_cons, not_or] at h
    rw [List.cons_append, ov_cons, ov_cons, ← ih h.2, put_comm h.1]
theorem ov_under (h : q ∉ l.map (·.1)) : put (ov w l) q n = ov (put w q n) l := by
  induction l with
  | nil => rfl
  | cons x r ih =>
    obtain ⟨c, k⟩ := x
    rw [List.map_cons, List.mem_cons, not_or] at h
    rw [ov_cons, ov_cons, ← ih h.2, put_comm h.1]
theorem ov_rid {i : Nat} (hn : (l.map (·.1)).Nodup) (hi : l[i]? = some (a, n)) (hw : w a = none) : rid (ov w l) a = ov w (l.eraseIdx i) := by
  induction l generalizing i with
  | nil => simp at hi
  | cons x r ih =>
    obtain ⟨c, k⟩ := x
    rw [List.map_cons, List.nodup_cons] at hn
    cases i with
    | zero =>
      rw [List.getElem?_cons_zero] at hi
      cases hi
      rw [List.eraseIdx_cons_zero, ov_cons, rid_put]
      rw [ov_out hn.1]; exact hw
    | succ i =>
      rw [List.getElem?_cons_succ] at hi
      have hm : a ∈ r.map (·.1) := List.mem_map.mpr ⟨_, List.mem_of_getElem? hi, rfl⟩
      rw [List.eraseIdx_cons_succ, ov_cons, ov_cons, ← ih hn.2 hi]
      funext b
      unfold rid put
      by_cases h1 : b = a
      · have : b ≠ c := fun z => hn.1 (z ▸ h1 ▸ hm)
        simp only [if_pos h1, if_neg this]
      · simp only [if_neg h1]
theorem ov_self (hn : (l.map (·.1)).Nodup) (h : ∀ (i : Nat) (a : Addr) (n : Nd), l[i]? = some (a, n) → w a = some n) : ov w l = w := by
  funext b
  by_cases hb : b ∈ l.map (·.1)
  · obtain ⟨⟨c, k⟩, hx, rfl⟩ := List.mem_map.mp hb
    obtain ⟨i, hi⟩ := List.getElem?_of_mem hx
    rw [ov_at hn hi, h i c k hi]
  · exact ov_out hb
theorem nodup_app (hn : (l.map (·.1)).Nodup) (h : q ∉ l.map (·.1)) : ((l ++ [(q, n)]).map (·.1)).Nodup := by
  rw [List.map_append, List.nodup_append]
  refine ⟨hn, by simp, fun x hx y hy z => ?_⟩
  have : y = q := by simpa using hy
  exact h (this ▸ z ▸ hx)
end
theorem ov_mask {w : Wd} {l : List (Addr × Nd)} {p : Addr} {n : Nd} (h : p ∈ l.map (·.1)) : ov (put w p n) l = ov w l := by
  funext b
  by_cases hb : b ∈ l.map (·.1)
  · obtain ⟨k, hk⟩ : ∃ k, l.lookup b = some k := by
      clear h
      induction l with
      | nil => cases hb
      | cons x r ih =>
        obtain ⟨c, m⟩ := x
        by_cases e : b = c
        · subst e; exact ⟨m, by simp [List.lookup]⟩
        · have e2 : (b == c) = false := beq_eq_false_iff_ne.mpr e
          rw [List.map_cons, List.mem_cons] at hb
          obtain ⟨k, hk⟩ := ih (hb.resolve_left e)
          exact ⟨k, by simp only [List.lookup, e2]; exact hk⟩
    unfold ov; rw [hk]
  · have ne : b ≠ p := fun z => hb (by rw [z]; exact h)
    rw [ov_out hb, ov_out hb, put_ne ne]
theorem ov_grow {w : Wd} {l : List (Addr × Nd)} (h : ∀ a ∈ l.map (·.1), w a = none) : Grow w (ov w l) := fun a n e => by
  rw [ov_out (fun z => by rw [h a z] at e; cases e)]; exact e
/-! ### loops over written items -/
def forU (g : DG) (tb : DS) (E : DEnds) : List D → DSt → Wd → Prop
  | [], S, w => E.nx S w
  | x :: r, S, w => g x S w fun S3 w3 => tb { E with nx := forU g tb E r, ct := forU g tb E r, bk := E.nx } S3 w3
theorem forU_step {g : DG} {tb : DS} {E : DEnds} {xs : List D} {i : Nat} {S : DSt} {w : Wd} (hi : i < xs.length) (h : forU g tb E (xs.drop i) S w) :
    g (xs.getD i .non) S w fun S3 w3 => tb { E with nx := forU g tb E (xs.drop (i + 1)), ct := forU g tb E (xs.drop (i + 1)), bk := E.nx } S3 w3 := by
  rw [List.drop_eq_getElem_cons hi] at h
  rw [List.getD_eq_getElem?_getD, List.getElem?_eq_getElem hi]
  exact h
theorem dFor_tup {te : DE} {g : DG} {tb : DS} {E : DEnds} {S : DSt} {w : Wd} {xs : List D} (ha : ∀ R : D → Wd → Prop, R (.tup xs) w → te S w R) (h : forU g tb E xs S w) : dFor (diT te) g tb E S w :=
  ha _ ⟨fun i S2 w2 => forU g tb E (xs.drop i) S2 w2, h, fun i S2 w2 hi q => ⟨trivial, forU_step hi q⟩, fun S2 w2 q => ⟨trivial, by
    have q' : forU g tb E (xs.drop xs.length) S2 w2 := q
    rw [List.drop_length] at q'; exact q'⟩⟩
theorem dFor_rot {te : DE} {g : DG} {tb : DS} {E : DEnds} {S : DSt} {w : Wd} {xs : List D} (ha : ∀ R : D → Wd → Prop, R (.rot xs) w → te S w R) (h : forU g tb E xs S w) : dFor (diT te) g tb E S w :=
  ha _ ⟨fun i S2 w2 => forU g tb E (xs.drop i) S2 w2, h, fun i S2 w2 hi q => ⟨trivial, forU_step hi q⟩, fun S2 w2 q => ⟨trivial, by
    have q' : forU g tb E (xs.drop xs.length) S2 w2 := q
    rw [List.drop_length] at q'; exact q'⟩⟩
theorem dFor_ulst {te : DE} {g : DG} {tb : DS} {E : DEnds} {S : DSt} {w : Wd} {xs : List D} (ha : ∀ R : D → Wd → Prop, R (.lst xs) w → te S w R) (h : forU g tb E xs S w) : dFor (diL te) g tb E S w :=
  ha _ ⟨fun i S2 w2 => forU g tb E (xs.drop i) S2 w2, h, fun i S2 w2 hi q => ⟨trivial, forU_step hi q⟩, fun S2 w2 q => ⟨trivial, by
    have q' : forU g tb E (xs.drop xs.length) S2 w2 := q
    rw [List.drop_length] at q'; exact q'⟩⟩
/-! ### str(..), sorted(d) -/
def strD : DRl := fun ds w Q => match ds with
  | [.int i] => i.natAbs.log2 < 1920 ∧ Q (.str (toString i)) w
  | [.str a] => Q (.str a) w
  | _ => False
theorem tr_str {K : PySem.W.Frag} : TrRl K (fun xs H Q => (∃ i, xs = [.int i] ∧ i.natAbs.log2 < 1920 ∧ Q (.str (toString i)) H) ∨ ∃ a, xs = [.str a] ∧ Q (.str a) H) strD := by
  intro H P w xs ds Q' Q rh rs h hq
  unfold strD at h
  split at h
  · rename_i i
    cases rs with
    | cons r1 r2 => cases r1; cases r2; exact .inl ⟨i, rfl, h.1, hq _ w h.2 _ H P rh.go (.str _)⟩
  · rename_i a
    cases rs with
    | cons r1 r2 => cases r1; cases r2; exact .inr ⟨a, rfl, hq _ w h _ H P rh.go (.str _)⟩
  · exact h.elim
theorem call_strA {X : Cx} : CallR X (.type "str") (fun xs H Q => (∃ i, xs = [.int i] ∧ i.natAbs.log2 < 1920 ∧ Q (.str (toString i)) H) ∨ ∃ a, xs = [.str a] ∧ Q (.str a) H) := CallR.or call_str_int SkE.call_str_str
/-- sorted(d), its keys ints -/
def sortN : DRl := fun ds w Q => match ds with
  | [.ref a] => match w a with
    | some (.dK kvs) => ∃ ks : List Int, kvs.map (·.1) = ks.map Sum.inl ∧ ks.length < 64 ∧ ∀ ys : List Int, ys.Perm ks → ys.Pairwise (· ≤ ·) → Q (.lst (ys.map D.int)) w
    | _ => False
  | _ => False
theorem sortN_w {w : Wd} {p : Addr} {kvs : List (Key × D)} {Q : DKt} (h : w p = some (.dK kvs)) : sortN [.ref p] w Q = (∃ ks : List Int, kvs.map (·.1) = ks.map Sum.inl ∧ ks.length < 64 ∧ ∀ ys : List Int, ys.Perm ks → ys.Pairwise (· ≤ ·) → Q (.lst (ys.map D.int)) w) := by
  unfold sortN; simp only [h]
theorem tr_sortN {K : PySem.W.Frag} : TrRl K (fun xs H Q => ∃ (a : Addr) (kvs : List (Key × V)) (ks : List Int), xs = [.ref a] ∧ Rd H a (.dK kvs) ∧ kvs.map (·.1) = ks.map Sum.inl ∧ ks.length < 64 ∧
    ∀ (ys : List Int) (p : Addr), ys.Perm ks → ys.Pairwise (· ≤ ·) → H p = none → Q (.ref p) (upd H p (.lst (ys.map V.int)))) sortN := by
  intro H P w xs ds Q' Q rh r h hq
  unfold sortN at h
  split at h
  · rename_i p
    split at h
    · rename_i kvs hw
      obtain ⟨ks, h1, h2, h3⟩ := h
      obtain ⟨_, ho, q1, kws, rfl, kv⟩ := rh.own p _ hw
      cases r with
      | cons r1 r2 =>
        cases r1
        cases r2
        refine ⟨p, kws, ks, rfl, .inl q1, by rw [← (KVr.keys kv).1]; exact h1, h2, fun ys q e1 e2 hq0 => ?_⟩
        have g := rh.newP (o := .lst (ys.map V.int)) hq0
        exact hq _ _ (h3 ys e1 e2) _ _ _ g (.lst upd_same (RepL.ints ys))
    · exact h.elim
  · exact h.elim
/-! ### stores, fields and written keys by computing -/
theorem put_en {w : Wd} {a b : Addr} {n : Nd} (h : a ≠ b) : put w a n b = w b := put_ne (Ne.symm h)
theorem put_eqn {w : Wd} {a b : Addr} {n : Nd} : (put w a n b = none) ↔ (b ≠ a ∧ w b = none) := by
  unfold put
  by_cases h : b = a
  · rw [if_pos h]; exact ⟨fun z => (nomatch z), fun z => (z.1 h).elim⟩
  · rw [if_neg h]; exact ⟨fun z => ⟨h, z⟩, fun z => z.2⟩
theorem rid_same {w : Wd} {a : Addr} : rid w a a = none := if_pos rfl
theorem rid_en {w : Wd} {a b : Addr} (h : a ≠ b) : rid w a b = w b := if_neg (Ne.symm h)
theorem getF_hd {f : Str} {d : D} {r : List (Str × D)} {k : D → Prop} : getF f ((f, d) :: r) k = k d := by
  unfold getF; simp only [List.lookup, beq_self_eq_true]
theorem getF_tl {f g : Str} {d : D} {r : List (Str × D)} {k : D → Prop} (h : f ≠ g) : getF f ((g, d) :: r) k = getF f r k := by
  have e : (f == g) = false := beq_eq_false_iff_ne.mpr h
  unfold getF; simp only [List.lookup, e]
theorem putD_nil {f : Str} {v : D} : putD f v [] = [(f, v)] := rfl
theorem putD_hd {f : Str} {v d : D} {r : List (Str × D)} : putD f v ((f, d) :: r) = (f, v) :: r := by unfold putD; rw [if_pos rfl]
theorem putD_tl {f g : Str} {v d : D} {r : List (Str × D)} (h : g ≠ f) : putD f v ((g, d) :: r) = (g, d) :: putD f v r := by
  show (if g = f then _ else _) = _
  rw [if_neg h]
theorem look_hd {f : Str} {d : D} {r : List (Str × D)} : List.lookup f ((f, d) :: r) = some d := by simp only [List.lookup, beq_self_eq_true]
theorem look_tl {f g : Str} {d : D} {r : List (Str × D)} (h : f ≠ g) : List.lookup f ((g, d) :: r) = List.lookup f r := by
  have e : (f == g) = false := beq_eq_false_iff_ne.mpr h
  simp only [List.lookup, e]
theorem look_nil {f : Str} : List.lookup f ([] : List (Str × D)) = none := rfl
def insK (C p : Addr) (k : Addr → List (Str × D) → Prop) : Option Nd → Prop
  | some (.ins C' fs) => C' = C ∧ k p fs
  | _ => False
theorem atO_q {w : Wd} {C p : Addr} {k : Addr → List (Str × D) → Prop} : atO w C (.ref p) k = insK C p k (w p) := by
  show (match w p with
    | some (.ins C' fs) => C' = C ∧ k p fs
    | _ => False) = insK C p k (w p)
  generalize w p = o
  cases o with
  | none => rfl
  | some n => cases n <;> rfl
theorem insK_s {C p : Addr} {fs : List (Str × D)} {k : Addr → List (Str × D) → Prop} : insK C p k (some (.ins C fs)) = k p fs := by
  show (C = C ∧ k p fs) = _
  rw [eq_self_iff_true, true_and]
end TD

set_option maxHeartbeats 2000000
namespace TD
open PySem PySem.Spec PyProof.Rows L2
/-! ### equations for computing with nodes -/
def lstOf : Option Nd → Option (List D)
  | some (.lst xs) => some xs
  | _ => none
def kOf : Option Nd → Option (List (Key × D))
  | some (.dK kvs) => some kvs
  | some (.lkK _ _ kvs) => some kvs
  | _ => none
def tOf : Option Nd → Option (List (List Key × D))
  | some (.dT kvs) => some kvs
  | some (.lkT _ _ kvs) => some kvs
  | _ => none
section
variable {w : Wd} {p : Addr} {xs : List D} {kvs : List (Key × D)} {kts : List (List Key × D)} {C : Addr} {fs : List (Str × D)} {x y v d : D} {Q : DKt} {neg own : Bool}
theorem lstOf_l : lstOf (some (.lst xs)) = some xs := rfl
theorem lstOf_k : lstOf (some (.dK kvs)) = none := rfl
theorem lstOf_t : lstOf (some (.dT kts)) = none := rfl
theorem kOf_k : kOf (some (.dK kvs)) = some kvs := rfl
theorem kOf_t : kOf (some (.dT kts)) = none := rfl
theorem tOf_t : tOf (some (.dT kts)) = some kts := rfl
theorem getS_ref : getS w (.ref p) = lstOf (w p) := by
  show (match w p with | some (.lst xs) => some xs | _ => none) = lstOf (w p)
  generalize w p = o
  cases o with
  | none => rfl
  | some n => cases n <;> rfl
theorem getL_ref : getL w (.ref p) = lstOf (w p) := getS_ref
theorem getM_ref : getM w (.ref p) = lstOf (w p) := getS_ref
theorem getK_ref : getK w (.ref p) = kOf (w p) := by
  show (match w p with | some (.dK kvs) => some kvs | some (.lkK _ _ kvs) => some kvs | _ => none) = kOf (w p)
  generalize w p = o
  cases o with
  | none => rfl
  | some n => cases n <;> rfl
theorem getKT_ref : getKT w (.ref p) = tOf (w p) := by
  show (match w p with | some (.dT kvs) => some kvs | some (.lkT _ _ kvs) => some kvs | _ => none) = tOf (w p)
  generalize w p = o
  cases o with
  | none => rfl
  | some n => cases n <;> rfl
/-- what a dict gives, or nothing follows -/
def optD (o : Option D) (k : D → Prop) : Prop := match o with
  | some d => k d
  | none => False
theorem optD_s {k : D → Prop} : optD (some d) k = k d := rfl
theorem optD_of {o : Option D} {k : D → Prop} (h : o = some d) (q : k d) : optD o k := by rw [h]; exact q
def ixNd (y : D) (w : Wd) (Q : DKt) : Option Nd → Prop
  | some (.lst xs) => match y with
    | .int i => optD (atI xs i) fun d => Q d w
    | _ => False
  | some (.dK kvs) => match keyD y with
    | some k => optD (valD kvs k) fun d => Q d w
    | none => False
  | some (.lkK _ _ kvs) => match keyD y with
    | some k => optD (valD kvs k) fun d => Q d w
    | none => False
  | some (.dT kvs) => match keyTD y with
    | some k => optD (valD kvs k) fun d => Q d w
    | none => False
  | some (.lkT _ _ kvs) => match keyTD y with
    | some k => optD (valD kvs k) fun d => Q d w
    | none => False
  | _ => False
theorem ixD_ref : ixD (.ref p) y w Q = ixNd y w Q (w p) := by
  have e : ixD (.ref p) y w Q = ixG (.ref p) y w Q := by unfold ixD; rfl
  rw [e]
  unfold ixG
  rw [getS_ref, getK_ref, getKT_ref]
  generalize w p = o
  cases o with
  | none => cases keyD y <;> cases keyTD y <;> rfl
  | some n =>
    cases n with
    | lst xs => rfl
    | dK kvs => unfold ixNd lstOf kOf tOf; cases keyD y <;> cases keyTD y <;> rfl
    | lkK o u kvs => unfold ixNd lstOf kOf tOf; cases keyD y <;> cases keyTD y <;> rfl
    | dT kvs => unfold ixNd lstOf kOf tOf; cases keyD y <;> cases keyTD y <;> rfl
    | lkT o u kvs => unfold ixNd lstOf kOf tOf; cases keyD y <;> cases keyTD y <;> rfl
    | ins C fs => unfold ixNd lstOf kOf tOf; cases keyD y <;> cases keyTD y <;> rfl
theorem ixNd_l {i : Int} : ixNd (.int i) w Q (some (.lst xs)) = optD (atI xs i) fun d => Q d w := rfl
theorem ixNd_ks {s : Str} : ixNd (.str s) w Q (some (.dK kvs)) = optD (valD kvs (.inr s)) fun d => Q d w := rfl
theorem ixNd_ki {i : Int} : ixNd (.int i) w Q (some (.dK kvs)) = optD (valD kvs (.inl i)) fun d => Q d w := rfl
def inNd (neg : Bool) (x : D) (w : Wd) (Q : DKt) : Option Nd → Prop
  | some (.lst ys) => flatD x = true ∧ ys.all flatD = true ∧ Q (.bl (neg != inL x ys)) w
  | some (.dK kvs) => match keyD x with
    | some k => Q (.bl (neg != (valD kvs k).isSome)) w
    | none => False
  | some (.lkK _ _ kvs) => match keyD x with
    | some k => Q (.bl (neg != (valD kvs k).isSome)) w
    | none => False
  | some (.dT kvs) => match keyTD x with
    | some k => Q (.bl (neg != (valD kvs k).isSome)) w
    | none => False
  | some (.lkT _ _ kvs) => match keyTD x with
    | some k => Q (.bl (neg != (valD kvs k).isSome)) w
    | none => False
  | _ => False
theorem inD_ref : inD neg x (.ref p) w Q = inNd neg x w Q (w p) := by
  have e : inD neg x (.ref p) w Q = inG neg x (.ref p) w Q := by unfold inD; cases x <;> rfl
  rw [e]
  unfold inG
  rw [getS_ref, getK_ref, getKT_ref]
  generalize w p = o
  cases o with
  | none => cases keyD x <;> cases keyTD x <;> rfl
  | some n =>
    cases n with
    | lst xs => rfl
    | dK kvs => unfold inNd lstOf kOf tOf; cases keyD x <;> cases keyTD x <;> rfl
    | lkK o u kvs => unfold inNd lstOf kOf tOf; cases keyD x <;> cases keyTD x <;> rfl
    | dT kvs => unfold inNd lstOf kOf tOf; cases keyD x <;> cases keyTD x <;> rfl
    | lkT o u kvs => unfold inNd lstOf kOf tOf; cases keyD x <;> cases keyTD x <;> rfl
    | ins C fs => unfold inNd lstOf kOf tOf; cases keyD x <;> cases keyTD x <;> rfl
theorem inNd_ks {s : Str} : inNd neg (.str s) w Q (some (.dK kvs)) = Q (.bl (neg != (valD kvs (.inr s)).isSome)) w := rfl
theorem inNd_ki {i : Int} : inNd neg (.int i) w Q (some (.dK kvs)) = Q (.bl (neg != (valD kvs (.inl i)).isSome)) w := rfl
theorem inNd_t2 {i j : Int} : inNd neg (.tup [.int i, .int j]) w Q (some (.dT kts)) = Q (.bl (neg != (valD kts [.inl i, .inl j]).isSome)) w := rfl
theorem inNd_t3 {s : Str} {i j : Int} : inNd neg (.tup [.str s, .int i, .int j]) w Q (some (.dT kts)) = Q (.bl (neg != (valD kts [.inr s, .inl i, .inl j]).isSome)) w := rfl
theorem ixNd_t2 {i j : Int} : ixNd (.tup [.int i, .int j]) w Q (some (.dT kts)) = optD (valD kts [.inl i, .inl j]) fun d => Q d w := rfl
theorem ixNd_t3 {s : Str} {i j : Int} : ixNd (.tup [.str s, .int i, .int j]) w Q (some (.dT kts)) = optD (valD kts [.inr s, .inl i, .inl j]) fun d => Q d w := rfl
def lenNd (w : Wd) (Q : DKt) : Option Nd → Prop
  | some (.lst xs) => Q (.int xs.length) w
  | some (.dK kvs) => Q (.int kvs.length) w
  | some (.lkK _ _ kvs) => Q (.int kvs.length) w
  | _ => False
theorem lenD_ref : lenD [.ref p] w Q = lenNd w Q (w p) := by
  show (match getS w (.ref p) with | some xs => Q (.int xs.length) w | none => match getK w (.ref p) with | some kvs => Q (.int kvs.length) w | none => False) = _
  rw [getS_ref, getK_ref]
  generalize w p = o
  cases o with
  | none => rfl
  | some n => cases n <;> rfl
theorem lenNd_l : lenNd w Q (some (.lst xs)) = Q (.int xs.length) w := rfl
theorem lenNd_k : lenNd w Q (some (.dK kvs)) = Q (.int kvs.length) w := rfl
def lisNd (own : Bool) (w : Wd) (Q : DKt) : Option Nd → Prop
  | some (.lst xs) => if own = true then ∀ p, w p = none → Q (.ref p) (put w p (.lst xs)) else Q (.lst xs) w
  | _ => False
theorem listD_ref : listD own [.ref p] w Q = lisNd own w Q (w p) := by
  show (match getS w (.ref p) with | some xs => (if own = true then ∀ p, w p = none → Q (.ref p) (put w p (.lst xs)) else Q (.lst xs) w) | none => False) = _
  rw [getS_ref]
  generalize w p = o
  cases o with
  | none => rfl
  | some n => cases n <;> rfl
theorem lisNd_l : lisNd false w Q (some (.lst xs)) = Q (.lst xs) w := rfl
theorem lisNd_o : lisNd true w Q (some (.lst xs)) = ∀ p, w p = none → Q (.ref p) (put w p (.lst xs)) := rfl
def tupNd (w : Wd) (Q : DKt) : Option Nd → Prop
  | some (.lst xs) => Q (.tup xs) w
  | _ => False
theorem tupleD_ref : tupleD [.ref p] w Q = tupNd w Q (w p) := by
  show (match getL w (.ref p) with | some xs => Q (.tup xs) w | none => False) = _
  rw [getL_ref]
  generalize w p = o
  cases o with
  | none => rfl
  | some n => cases n <;> rfl
theorem tupNd_l : tupNd w Q (some (.lst xs)) = Q (.tup xs) w := rfl
def atLd (p : Addr) (k : Addr → List D → Prop) : Option Nd → Prop
  | some (.lst xs) => k p xs
  | _ => False
theorem atL_ref {k : Addr → List D → Prop} : atL w (.ref p) k = atLd p k (w p) := by
  show (match w p with | some (.lst xs) => k p xs | _ => False) = _
  generalize w p = o
  cases o with
  | none => rfl
  | some n => cases n <;> rfl
theorem atLd_l {k : Addr → List D → Prop} : atLd p k (some (.lst xs)) = k p xs := rfl
theorem appD_1 : appD x [d] w Q = atL w x fun a xs => xs.length < sizeLine ∧ Q .non (put w a (.lst (xs ++ [d]))) := rfl
theorem popD_0 : popD x [] w Q = atL w x fun a xs => optD (xs[xs.length - 1]?) fun d => Q d (put w a (.lst xs.dropLast)) := rfl
theorem clrD_0 : clrD x [] w Q = atL w x fun a xs => Q .non (put w a (.lst [])) := rfl
def putNd (w : Wd) (p : Addr) (y v : D) (k : Wd → Prop) : Option Nd → Prop
  | some (.dK kvs) => match keyD y with
      | some q => kvs.length < 100000 ∧ k (put w p (.dK (setK kvs q v)))
      | none => False
  | some (.dT kvs) => match y with
      | .tup ds => match keysD ds with
        | some q => kvs.length < 100000 ∧ k (put w p (.dT (setK kvs q v)))
        | none => False
      | _ => False
  | _ => False
theorem dPutAt_ref {k : Wd → Prop} : dPutAt w (.ref p) y v k = putNd w p y v k (w p) := by
  unfold dPutAt
  dsimp only
  generalize w p = o
  cases o with
  | none => rfl
  | some n => cases n <;> rfl
theorem putNd_ks {s : Str} {k : Wd → Prop} : putNd w p (.str s) v k (some (.dK kvs)) = (kvs.length < 100000 ∧ k (put w p (.dK (setK kvs (.inr s) v)))) := rfl
theorem putNd_ki {i : Int} {k : Wd → Prop} : putNd w p (.int i) v k (some (.dK kvs)) = (kvs.length < 100000 ∧ k (put w p (.dK (setK kvs (.inl i) v)))) := rfl
theorem putNd_t2 {i j : Int} {k : Wd → Prop} : putNd w p (.tup [.int i, .int j]) v k (some (.dT kts)) = (kts.length < 100000 ∧ k (put w p (.dT (setK kts [.inl i, .inl j] v)))) := rfl
theorem putNd_t3 {s : Str} {i j : Int} {k : Wd → Prop} : putNd w p (.tup [.str s, .int i, .int j]) v k (some (.dT kts)) = (kts.length < 100000 ∧ k (put w p (.dT (setK kts [.inr s, .inl i, .inl j] v)))) := rfl
theorem putNd_t1 {s : Str} {i : Int} {k : Wd → Prop} : putNd w p (.tup [.str s, .int i]) v k (some (.dT kts)) = (kts.length < 100000 ∧ k (put w p (.dT (setK kts [.inr s, .inl i] v)))) := rfl
theorem ixNd_t1 {s : Str} {i : Int} : ixNd (.tup [.str s, .int i]) w Q (some (.dT kts)) = optD (valD kts [.inr s, .inl i]) fun d => Q d w := rfl
def popNd (w : Wd) (p : Addr) (y : D) (k : D → Wd → Prop) : Option Nd → Prop
  | some (.dK kvs) => match keyD y with
    | some q => optD (valD kvs q) fun d => k d (put w p (.dK (ridK kvs q)))
    | none => False
  | some (.dT kvs) => match y with
    | .tup ds => match keysD ds with
      | some q => optD (valD kvs q) fun d => k d (put w p (.dT (ridK kvs q)))
      | none => False
    | _ => False
  | _ => False
theorem dPopAt_ref {k : D → Wd → Prop} : dPopAt w (.ref p) y k = popNd w p y k (w p) := by
  unfold dPopAt
  dsimp only
  generalize w p = o
  cases o with
  | none => rfl
  | some n => cases n <;> rfl
theorem popNd_ki {i : Int} {k : D → Wd → Prop} : popNd w p (.int i) k (some (.dK kvs)) = optD (valD kvs (.inl i)) fun d => k d (put w p (.dK (ridK kvs (.inl i)))) := rfl
theorem popNd_ks {i : Str} {k : D → Wd → Prop} : popNd w p (.str i) k (some (.dK kvs)) = optD (valD kvs (.inr i)) fun d => k d (put w p (.dK (ridK kvs (.inr i)))) := rfl
theorem popNd_t2 {i j : Int} {k : D → Wd → Prop} : popNd w p (.tup [.int i, .int j]) k (some (.dT kts)) = optD (valD kts [.inl i, .inl j]) fun d => k d (put w p (.dT (ridK kts [.inl i, .inl j]))) := rfl
theorem popNd_t3 {s : Str} {i j : Int} {k : D → Wd → Prop} : popNd w p (.tup [.str s, .int i, .int j]) k (some (.dT kts)) = optD (valD kts [.inr s, .inl i, .inl j]) fun d => k d (put w p (.dT (ridK kts [.inr s, .inl i, .inl j]))) := rfl
def isDn : Option Nd → Prop
  | some (.dK _) => True
  | some (.dT _) => True
  | _ => False
theorem isDc_ref : isDc w (.ref p) = isDn (w p) := by
  unfold isDc
  dsimp only
  generalize w p = o
  cases o with
  | none => rfl
  | some n => cases n <;> rfl
theorem isDn_k : isDn (some (.dK kvs)) = True := rfl
theorem isDn_t : isDn (some (.dT kts)) = True := rfl
def copNd (own : Bool) (w : Wd) (Q : DKt) : Option Nd → Prop := fun o => match kOf o with
  | some kvs => if own = true then ∀ p, w p = none → Q (.ref p) (put w p (.dK kvs)) else Q (.dct (kvs.map (·.1)) (kvs.map (·.2))) w
  | none => False
def cotNd (own : Bool) (w : Wd) (Q : DKt) : Option Nd → Prop := fun o => match tOf o with
  | some kvs => HashApart (kvs.map (·.1)) ∧ if own = true then ∀ p, w p = none → Q (.ref p) (put w p (.dT kvs)) else Q (.dtt (kvs.map (·.1)) (kvs.map (·.2))) w
  | none => False
theorem copyK_q : copyK own [.ref p] w Q = copNd own w Q (w p) := by
  unfold copyK copNd
  dsimp only
  rw [getK_ref]
  try (cases kOf (w p) <;> rfl)
theorem copyT_q : copyT own [.ref p] w Q = cotNd own w Q (w p) := by
  unfold copyT cotNd
  dsimp only
  rw [getKT_ref]
  try (cases tOf (w p) <;> rfl)
theorem copNd_o : copNd true w Q (some (.dK kvs)) = ∀ p, w p = none → Q (.ref p) (put w p (.dK kvs)) := rfl
theorem copNd_f : copNd false w Q (some (.dK kvs)) = Q (.dct (kvs.map (·.1)) (kvs.map (·.2))) w := rfl
theorem cotNd_o : cotNd true w Q (some (.dT kts)) = (HashApart (kts.map (·.1)) ∧ ∀ p, w p = none → Q (.ref p) (put w p (.dT kts))) := rfl
theorem cotNd_f : cotNd false w Q (some (.dT kts)) = (HashApart (kts.map (·.1)) ∧ Q (.dtt (kts.map (·.1)) (kts.map (·.2))) w) := rfl
def srtNd (w : Wd) (Q : DKt) : Option Nd → Prop
  | some (.dK kvs) => ∃ ks : List Int, kvs.map (·.1) = ks.map Sum.inl ∧ ks.length < 64 ∧ ∀ ys : List Int, ys.Perm ks → ys.Pairwise (· ≤ ·) → Q (.lst (ys.map D.int)) w
  | _ => False
theorem sortN_q : sortN [.ref p] w Q = srtNd w Q (w p) := by
  unfold sortN
  dsimp only
  generalize w p = o
  cases o with
  | none => rfl
  | some n => cases n <;> rfl
theorem srtNd_k {kvs : List (Key × D)} : srtNd w Q (some (.dK kvs)) = ∃ ks : List Int, kvs.map (·.1) = ks.map Sum.inl ∧ ks.length < 64 ∧ ∀ ys : List Int, ys.Perm ks → ys.Pairwise (· ≤ ·) → Q (.lst (ys.map D.int)) w := rfl
theorem mulDO_li {k : Int} : mulDO (.lst xs) (.int k) w Q = (-(2 ^ 63) ≤ k ∧ k < 2 ^ 63 ∧ xs.length * k.toNat ≤ sizeLine ∧ ∀ p, w p = none → Q (.ref p) (put w p (.lst (List.replicate k.toNat xs).flatten))) := rfl
/-! tuples by written places -/
theorem atI_nat {α : Type} {xs : List α} {n : Nat} {a : α} (h : xs[n]? = some a) : atI xs (n : Int) = some a := by
  obtain ⟨hl, _⟩ := List.getElem?_eq_some_iff.mp h
  unfold atI ixN
  rw [if_pos (by omega), if_pos (by omega), Option.bind_some, Int.toNat_natCast, h]
theorem ixT_0 {a : D} {r : List D} : ixD (.tup (a :: r)) (.int 0) w Q = Q a w := ixD_t (atI_nat (n := 0) rfl)
theorem ixT_1 {a b : D} {r : List D} : ixD (.tup (a :: b :: r)) (.int 1) w Q = Q b w := ixD_t (atI_nat (n := 1) rfl)
theorem ixT_2 {a b c : D} {r : List D} : ixD (.tup (a :: b :: c :: r)) (.int 2) w Q = Q c w := ixD_t (atI_nat (n := 2) rfl)
theorem ixT_3 {a b c e : D} {r : List D} : ixD (.tup (a :: b :: c :: e :: r)) (.int 3) w Q = Q e w := ixD_t (atI_nat (n := 3) rfl)
/-! written keys -/
theorem valD_hd {κ : Type} [DecidableEq κ] {k : κ} {d : D} {r : List (κ × D)} : valD ((k, d) :: r) k = some d := valD_pos rfl
theorem valD_tl {κ : Type} [DecidableEq κ] {k j : κ} {d : D} {r : List (κ × D)} (h : ¬ j = k) : valD ((j, d) :: r) k = valD r k := valD_neg h
theorem setK_1 {κ : Type} [DecidableEq κ] {j k : κ} {d v : D} (h : ¬ j = k) : setK [(j, d)] k v = [(j, d), (k, v)] := by
  unfold setK; simp [h]
theorem setK_20 {κ : Type} [DecidableEq κ] {j k : κ} {d e v : D} (h : ¬ j = k) : setK [(k, d), (j, e)] k v = [(k, v), (j, e)] := by
  unfold setK; simp [h]
theorem setK_21 {κ : Type} [DecidableEq κ] {j k : κ} {d e v : D} (h : ¬ j = k) : setK [(j, d), (k, e)] k v = [(j, d), (k, v)] := by
  unfold setK; simp [h]
theorem setK_30 {κ : Type} [DecidableEq κ] {a b c : κ} {x y z v : D} (h1 : ¬ b = a) (h2 : ¬ c = a) : setK [(a, x), (b, y), (c, z)] a v = [(a, v), (b, y), (c, z)] := by
  unfold setK; simp [h1, h2]
theorem setK_31 {κ : Type} [DecidableEq κ] {a b c : κ} {x y z v : D} (h1 : ¬ a = b) (h2 : ¬ c = b) : setK [(a, x), (b, y), (c, z)] b v = [(a, x), (b, v), (c, z)] := by
  unfold setK; simp [h1, h2]
theorem setK_32 {κ : Type} [DecidableEq κ] {a b c : κ} {x y z v : D} (h1 : ¬ a = c) (h2 : ¬ b = c) : setK [(a, x), (b, y), (c, z)] c v = [(a, x), (b, y), (c, v)] := by
  unfold setK; simp [h1, h2]
theorem setK_nil {κ : Type} [DecidableEq κ] {k : κ} {d : D} : setK [] k d = [(k, d)] := rfl
end
theorem rep_one {α : Type} (x : α) (n : Nat) : (List.replicate n [x]).flatten = List.replicate n x := by
  induction n with
  | zero => rfl
  | succ n ih => rw [List.replicate_succ, List.flatten_cons, ih, List.replicate_succ]; rfl
theorem ne_new {w : Wd} {a q : Addr} {n : Nd} (h : w a = some n) (hq : w q = none) : a ≠ q := fun z => by rw [z, hq] at h; cases h
theorem fzl_keep {w : Wd} : ∀ ds : List D, FzL w ds ds w
  | [] => .nil
  | _ :: r => .cons .keep (fzl_keep r)
theorem nd_get {α : Type} {l : List α} (h : l.Nodup) {i j : Nat} {a : α} (hi : l[i]? = some a) (hj : l[j]? = some a) : i = j := by
  obtain ⟨h1, e1⟩ := List.getElem?_eq_some_iff.mp hi
  obtain ⟨h2, e2⟩ := List.getElem?_eq_some_iff.mp hj
  have hp := List.pairwise_iff_getElem.mp h
  rcases Nat.lt_trichotomy i j with z | z | z
  · exact (hp i j h1 h2 z (e1.trans e2.symm)).elim
  · exact z
  · exact (hp j i h2 h1 z (e2.trans e1.symm)).elim
theorem nd_of {α : Type} {l : List α} (h : ∀ (i j : Nat) (a : α), l[i]? = some a → l[j]? = some a → i = j) : l.Nodup :=
  List.pairwise_iff_getElem.mpr fun i j hi hj hij e => by
    have := h i j l[j] (by rw [List.getElem?_eq_getElem hi, e]) (List.getElem?_eq_getElem hj)
    omega
/-! ### a row of nodes stands in a store -/
structure AllAt (w : Wd) (l : List (Addr × Nd)) : Prop where
  nd : (l.map (·.1)).Nodup
  all : ∀ x ∈ l, w x.1 = some x.2
section
variable {w w1 : Wd} {l : List (Addr × Nd)} {a q : Addr} {n m : Nd}
theorem AllAt.at (h : AllAt w l) (i : Nat) (hi : l[i]? = some (a, n) := by rfl) : w a = some n := h.all _ (List.mem_of_getElem? hi)
theorem AllAt.key (i : Nat) (hi : l[i]? = some (a, n) := by rfl) : a ∈ l.map (·.1) := List.mem_map.mpr ⟨_, List.mem_of_getElem? hi, rfl⟩
theorem AllAt.put (h : AllAt w l) (i : Nat) (hi : l[i]? = some (a, m) := by rfl) : AllAt (put w a n) (l.set i (a, n)) := by
  refine ⟨by rw [set_keys hi]; exact h.nd, fun x hx => ?_⟩
  rcases List.mem_or_eq_of_mem_set hx with h1 | h1
  · by_cases e : x.1 = a
    · -- the place i itself
      obtain ⟨j, hj⟩ := List.getElem?_of_mem hx
      rw [List.getElem?_set] at hj
      split at hj
      · split at hj
        · cases hj; exact put_same
        · cases hj
      · next ne =>
        have kj : (l.map (·.1))[j]? = some a := by rw [List.getElem?_map, hj, ← e]; rfl
        have ki : (l.map (·.1))[i]? = some a := by rw [List.getElem?_map, hi]; rfl
        exact (ne (nd_get h.nd ki kj)).elim
    · rw [put_ne e]; exact h.all x h1
  · rw [h1]; exact put_same
theorem AllAt.repl (h : AllAt w l) (i : Nat) (hq : q ∉ l.map (·.1)) (hi : i < l.length) : AllAt (TD.put w q n) (l.set i (q, n)) := by
  refine ⟨?_, fun x hx => ?_⟩
  · rw [List.map_set]
    have hq' : ∀ j : Nat, (l.map (·.1))[j]? ≠ some q := fun j z => hq (List.mem_of_getElem? z)
    refine nd_of fun j k b hj hk => ?_
    rw [List.getElem?_set] at hj hk
    split at hj
    · next e1 =>
      split at hj
      · cases hj
        split at hk
        · next e2 => exact e1.symm.trans e2
        · exact (hq' k hk).elim
      · cases hj
    · next e1 =>
      split at hk
      · split at hk
        · cases hk; exact (hq' j hj).elim
        · cases hk
      · exact nd_get h.nd hj hk
  · rcases List.mem_or_eq_of_mem_set hx with h1 | h1
    · have ne : x.1 ≠ q := fun z => hq (by rw [← z]; exact List.mem_map.mpr ⟨x, h1, rfl⟩)
      rw [put_ne ne]; exact h.all x h1
    · rw [h1]; exact put_same
theorem AllAt.grow (h : AllAt w l) (g : ∀ x ∈ l, w1 x.1 = some x.2 ∨ w x.1 = w1 x.1) : AllAt w1 l := ⟨h.nd, fun x hx => (g x hx).elim id fun e => by rw [← e]; exact h.all x hx⟩
theorem AllAt.new (h : AllAt w l) (hq : w q = none) : q ∉ l.map (·.1) := fun z => by
  obtain ⟨x, hx, rfl⟩ := List.mem_map.mp z
  rw [h.all x hx] at hq; cases hq
theorem AllAt.putN (h : AllAt w l) (hq : q ∉ l.map (·.1)) : AllAt (TD.put w q n) l := ⟨h.nd, fun x hx => by
  have ne : x.1 ≠ q := fun z => hq (by rw [← z]; exact List.mem_map.mpr ⟨x, hx, rfl⟩)
  rw [put_ne ne]; exact h.all x hx⟩
theorem AllAt.sub {l' : List (Addr × Nd)} (h : AllAt w l) (s : l'.Sublist l) : AllAt w l' := ⟨h.nd.sublist (s.map _), fun x hx => h.all x (s.subset hx)⟩
end
theorem dLc_tf {tl te : DE} {tt : DT} {T : Tgt} {S : DSt} {w : Wd} {Q : DKt} {xs : List D} {c : D → Bool} {f : D → D} (ha : ∀ R : D → Wd → Prop, R (.tup xs) w → tl S w R) (h2 : xs.length ≤ 100000)
    (he : ∀ d ∈ xs, T.dg d (wipeD S T.vs) fun S2 => EvT tt S2 w (c d) ∧ (c d = true → EvE te S2 w (f d))) (q : Q (.lst ((xs.filter c).map f)) w) : dLc (diT tl) T tt te S w Q := by
  refine ha _ ⟨_, lc_fl (xs := xs) (j := itOf xs fun _ => True) (c := c) (f := f) rfl (fun i d h => ?_) h2 trivial he, ?_⟩
  · show xs.getD i .non = d
    rw [List.getD_eq_getElem?_getD, h]; rfl
  · show Q (.lst (((xs.take xs.length).filter c).map f)) w
    rw [List.take_length]; exact q
theorem atLd_at {w : Wd} {p : Addr} {xs : List D} {k : Addr → List D → Prop} (h : w p = some (.lst xs)) : atLd p k (w p) = k p xs := by rw [h]; rfl
end TD

set_option maxHeartbeats 2000000
namespace TD
open PySem PySem.Spec PyProof.Rows L2
/-! ### list.remove of ints; sorted(..), kept -/
def remD : DRm := fun x ds w Q => match ds with
  | [.int k] => atL w x fun a xs => ∃ ns : List Int, xs = ns.map D.int ∧ k ∈ ns ∧ Q .non (put w a (.lst ((ns.erase k).map D.int)))
  | _ => False
theorem tr_rem {K : PySem.W.Frag} : TrRm K "list" rRemI remD := by
  intro H P w x xs dx ds Q' Q rh rx rs h hq
  unfold remD at h
  split at h
  · rename_i k
    cases rs with
    | cons r1 r2 =>
      cases r1
      cases r2
      obtain ⟨a, ys, vs, rfl, hw, hh, r, ns, rfl, hk, h2⟩ := atL_ok rh rx h
      obtain rfl := RepL.of_ints r
      obtain ⟨j, j1, j2, j3, j4⟩ := first_at hk
      refine ⟨a, ns, k, j, rfl, rfl, hh, j2, j3, ?_⟩
      rw [j4]
      exact hq _ _ h2 _ _ _ (rh.setW (m := .lst ((ns.erase k).map D.int)) hw ⟨_, rfl, RepL.ints _⟩) .non
  · exact h.elim
theorem remD_1 {x : D} {k : Int} {w : Wd} {Q : DKt} : remD x [.int k] w Q = atL w x fun a xs => ∃ ns : List Int, xs = ns.map D.int ∧ k ∈ ns ∧ Q .non (put w a (.lst ((ns.erase k).map D.int))) := rfl
def sortDO : DRl := fun ds w Q => match ds with
  | [x] => match nsD w x with
    | some ns => ∀ (ms : List Int) (p : Addr), ms.Perm ns → ms.Pairwise (· ≤ ·) → w p = none → Q (.ref p) (put w p (.lst (ms.map D.int)))
    | none => False
  | _ => False
theorem tr_sortO {K : PySem.W.Frag} : TrRl K (rSortedI K) sortDO := by
  intro H P w xs ds Q' Q rh r h hq
  unfold sortDO at h
  split at h
  · rename_i x
    split at h
    · rename_i ns hn
      cases r with
      | cons r1 r2 =>
        cases r2
        obtain ⟨a, rfl, sq⟩ := nsD_at rh r1 hn
        refine ⟨a, ns, rfl, sq, fun ms p h1 h2 hp => ?_⟩
        exact hq _ _ (h ms p h1 h2 (rh.free hp).2) _ _ _ (rh.newW (o := .lst (ms.map V.int)) (n := .lst (ms.map D.int)) hp ⟨_, rfl, RepL.ints ms⟩) (.ref p)
    · exact h.elim
  · exact h.elim
theorem sortDO_l {ns : List Int} {w : Wd} {Q : DKt} : sortDO [.lst (ns.map D.int)] w Q = ∀ (ms : List Int) (p : Addr), ms.Perm ns → ms.Pairwise (· ≤ ·) → w p = none → Q (.ref p) (put w p (.lst (ms.map D.int))) := by
  unfold sortDO nsD
  simp only [getL, Option.bind_some, intsD_map]
def sortNO : DRl := fun ds w Q => match ds with
  | [.ref a] => match w a with
    | some (.dK kvs) => ∃ ks : List Int, kvs.map (·.1) = ks.map Sum.inl ∧ ks.length < 64 ∧ ∀ (ys : List Int) (p : Addr), ys.Perm ks → ys.Pairwise (· ≤ ·) → w p = none → Q (.ref p) (put w p (.lst (ys.map D.int)))
    | _ => False
  | _ => False
theorem tr_sortNO {K : PySem.W.Frag} : TrRl K (fun xs H Q => ∃ (a : Addr) (kvs : List (Key × V)) (ks : List Int), xs = [.ref a] ∧ Rd H a (.dK kvs) ∧ kvs.map (·.1) = ks.map Sum.inl ∧ ks.length < 64 ∧
    ∀ (ys : List Int) (p : Addr), ys.Perm ks → ys.Pairwise (· ≤ ·) → H p = none → Q (.ref p) (upd H p (.lst (ys.map V.int)))) sortNO := by
  intro H P w xs ds Q' Q rh r h hq
  unfold sortNO at h
  split at h
  · rename_i p
    split at h
    · rename_i kvs hw
      obtain ⟨ks, h1, h2, h3⟩ := h
      obtain ⟨_, ho, q1, kws, rfl, kv⟩ := rh.own p _ hw
      cases r with
      | cons r1 r2 =>
        cases r1
        cases r2
        refine ⟨p, kws, ks, rfl, .inl q1, by rw [← (KVr.keys kv).1]; exact h1, h2, fun ys q e1 e2 hq0 => ?_⟩
        exact hq _ _ (h3 ys q e1 e2 (rh.free hq0).2) _ _ _ (rh.newW (o := .lst (ys.map V.int)) (n := .lst (ys.map D.int)) hq0 ⟨_, rfl, RepL.ints ys⟩) (.ref q)
    · exact h.elim
  · exact h.elim
def sroNd (w : Wd) (Q : DKt) : Option Nd → Prop
  | some (.dK kvs) => ∃ ks : List Int, kvs.map (·.1) = ks.map Sum.inl ∧ ks.length < 64 ∧ ∀ (ys : List Int) (p : Addr), ys.Perm ks → ys.Pairwise (· ≤ ·) → w p = none → Q (.ref p) (put w p (.lst (ys.map D.int)))
  | _ => False
theorem sortNO_q {w : Wd} {p : Addr} {Q : DKt} : sortNO [.ref p] w Q = sroNd w Q (w p) := by
  unfold sortNO
  dsimp only
  generalize w p = o
  cases o with
  | none => rfl
  | some n => cases n <;> rfl
theorem sroNd_k {kvs : List (Key × D)} {w : Wd} {Q : DKt} : sroNd w Q (some (.dK kvs)) = ∃ ks : List Int, kvs.map (·.1) = ks.map Sum.inl ∧ ks.length < 64 ∧ ∀ (ys : List Int) (p : Addr), ys.Perm ks → ys.Pairwise (· ≤ ·) → w p = none → Q (.ref p) (put w p (.lst (ys.map D.int))) := rfl
/-- an expression that is not reached -/
def dNeverE : DE := fun _ _ _ => False
theorem qe_neverE {X : Cx} {W : WX} {W' : DWX} {e : Expr} : QE X W W' e dNeverE := ⟨fun _ _ _ _ _ _ ⟨_, _, _, _, _, _, h, _⟩ => h.elim⟩
/-! ### which kind a caught error is of -/
def optB (o : Option Bool) (k : Bool → Prop) : Prop := match o with
  | some b => k b
  | none => False
theorem optB_s {b : Bool} {k : Bool → Prop} : optB (some b) k = k b := rfl
theorem isE_eq {K : PySem.W.Frag} {n : Str} {cv : Value} {a : Addr} {S : DSt} {w : Wd} {Q : DKt} (hC : ExcC K (He.ga K n)) :
    dIsE K 0 a (cls K n) none cv (some (.ref a) :: S) w Q = optB (PySem.W.kitOne K (cls K n) cv) fun b => Q (.bl b) w := by
  unfold dIsE
  apply propext
  constructor
  · rintro ⟨_, _, C, c, e1, _, e3, q⟩
    have e1' : (Value.ref (He.ga K n)) = .ref C := e1
    cases e1'
    have e3' : PySem.W.kitOne K (cls K n) cv = some c := e3
    rw [e3']
    exact q
  · intro q
    cases e : PySem.W.kitOne K (cls K n) cv with
    | none => rw [e] at q; exact q.elim
    | some c => rw [e] at q; exact ⟨rfl, rfl, _, _, rfl, hC, e, q⟩
theorem kinds_at {n : Str} : ∀ {N : List Str}, N.Nodup → n ∈ N → ∃ j : Nat, N[j]? = some n ∧ (N.map fun b => decide (n = b))[j]? = some true ∧ (∀ m, m < j → (N.map fun b => decide (n = b))[m]? ≠ some true) ∧ (N.map fun b => decide (n = b)).count true = 1
  | [], _, h => by cases h
  | a :: r, hn, h => by
    rw [List.nodup_cons] at hn
    by_cases e : n = a
    · subst e
      refine ⟨0, rfl, by simp, fun m hm => by omega, ?_⟩
      rw [List.map_cons, List.count_cons]
      have : (r.map fun b => decide (n = b)).count true = 0 := by
        rw [List.count_eq_zero]
        intro z
        obtain ⟨b, hb, e⟩ := List.mem_map.mp z
        exact hn.1 (by rw [of_decide_eq_true e]; exact hb)
      rw [this]; simp
    · obtain ⟨j, h1, h2, h3, h4⟩ := kinds_at hn.2 ((List.mem_cons.mp h).resolve_left e)
      refine ⟨j + 1, h1, h2, fun m hm => ?_, ?_⟩
      · cases m with
        | zero => simp [e]
        | succ m => rw [List.map_cons, List.getElem?_cons_succ]; exact h3 m (by omega)
      · rw [List.map_cons, List.count_cons, h4]; simp [e]
theorem inL_nl {x : D} : inL x [] = false := rfl
theorem inL_sc {a b : Str} {r : List D} : inL (.str a) (.str b :: r) = (decide (b = a) || inL (.str a) r) := by
  show (eqF (.str b) (.str a) || inL (.str a) r) = _
  congr 1
theorem inNd_li {neg : Bool} {i : Int} {ns : List Int} {w : Wd} {Q : DKt} : inNd neg (.int i) w Q (some (.lst (ns.map D.int))) = Q (.bl (neg != decide (i ∈ ns))) w := by
  show (flatD (.int i) = true ∧ (ns.map D.int).all flatD = true ∧ Q (.bl (neg != inL (.int i) (ns.map D.int))) w) = _
  rw [inL_ints]
  exact propext ⟨fun z => z.2.2, fun z => ⟨rfl, all_ints ns, z⟩⟩
theorem addD_wl {w : Wd} {p : Addr} {ys : List D} {Q : DKt} : addD (.ref p) (.lst ys) w Q = (match lstOf (w p) with | some xs => xs.length + ys.length ≤ sizeLine ∧ Q (.lst (xs ++ ys)) w | none => False) := by
  show (match getM w (.ref p), getM w (.lst ys) with | some xs, some ys => xs.length + ys.length ≤ sizeLine ∧ Q (.lst (xs ++ ys)) w | _, _ => False) = _
  rw [getM_ref]
  show (match lstOf (w p), some ys with | some xs, some ys => xs.length + ys.length ≤ sizeLine ∧ Q (.lst (xs ++ ys)) w | _, _ => False) = _
  cases lstOf (w p) <;> rfl
section
variable {w : Wd} {Q : DKt}
theorem ixL_0 {a : D} {r : List D} : ixD (.lst (a :: r)) (.int 0) w Q = Q a w := ixD_l (atI_nat (n := 0) rfl)
theorem ixL_1 {a b : D} {r : List D} : ixD (.lst (a :: b :: r)) (.int 1) w Q = Q b w := ixD_l (atI_nat (n := 1) rfl)
theorem ixL_2 {a b c : D} {r : List D} : ixD (.lst (a :: b :: c :: r)) (.int 2) w Q = Q c w := ixD_l (atI_nat (n := 2) rfl)
theorem ixL_3 {a b c e : D} {r : List D} : ixD (.lst (a :: b :: c :: e :: r)) (.int 3) w Q = Q e w := ixD_l (atI_nat (n := 3) rfl)
end
end TD

set_option maxHeartbeats 2000000
namespace TD
open PySem PySem.Spec PyProof.Rows L2
local macro_rules | `(tactic| walk_at "td") => `(tactic| simp only [dSeq, dIf, dB, dOp, dUn, dCB, dVar, dC, dRet, dRetN, dNext, dDrop, dAsg, dAnd, dOr, dNot, dAndV, dOrV, dNotV, dIfE, dChain, dCons, dNil, dTup, dLst, dLstO, dCall, dSl, dPart, dNoPart, dBM, dBM0, dAug, dAsgG, dgName, dgTup, setAll, dCont, dBreak,
  addD_ii, addD_ss, addD_tt, addD_ll, subD_ii, mulD_ii, mulD_li, fdivD_ii, modD_ii, powD_ii, negD_i, ltD_ii, leD_ii, gtD_ii, geD_ii, eqD_ii, eqD_ss, eqD_bb, eqD_nn, eqD_ni, eqD_in, isN_x, isNon_non, isNon_int, isNon_str, isNon_bl, isNon_lst, isNon_tup, isNon_ref, lenD_l, lenD_r, lenD_t, lenD_s, slD_l, slD_t, slD_s, listD_l, listD_r, listD_t, listD_lO, listD_tO, tupleD_l, tupleD_t, sumD_l, allD_l, maxD_ii, minD_ii, absD_i, atSeq_l, atSeq_r, wipeD, dTy_put, app_put, true_and, and_true, dFrz, put_same, Option.bind_some, frzD_lst,
  startD, List.map_cons, List.map_nil, List.cons_append, List.nil_append, List.length_cons, List.length_nil, List.getElem?_cons_zero, List.getElem?_cons_succ, List.set_cons_zero, List.set_cons_succ, List.replicate_succ, List.replicate_zero, List.append_nil, Nat.reduceAdd, Nat.reduceSub, Int.reduceToNat, decide_eq_true_eq, Bool.false_bne, Bool.true_bne, Bool.not_eq_true', Bool.not_eq_true, decide_eq_false_iff_not, Bool.false_eq_true, if_true, if_false, ite_true, ite_false, reduceIte])
/-! ### the script's cells -/
def cellM (ns : List Int) (i : Int) : Int :=
  if i < ns.length then ns.getD i.toNat 0 else if ns.length = 0 then 29 * i + 5 else ns.getD (i % ns.length).toNat 0 % 1000003 + 103 * i
def sp__law_cell : DSp := fun ds w Q _ => ∃ (ns : List Int) (i : Int), ds = [.rol (ns.map D.int), .int i] ∧ 0 ≤ i ∧ i < 2 ^ 60 ∧ Q (.int (cellM ns i)) w
def t__law_cell (E : DX) : DS :=
  let W' : DWX := fun c d _ w => E c d w
  (dSeq (dIf (dB (dOp ltD (dVar 1) (dCB lenD (dCons (dVar 0) dNil)))) (dRet (dOp ixD (dVar 0) (dVar 1))) dNext) (dSeq (dIf (dB (dOp (eqD false) (dCB lenD (dCons (dVar 0) dNil)) (dC (.int 0)))) (dRet (dOp addD (dOp mulD (dC (.int 29)) (dVar 1)) (dC (.int 5)))) dNext) (dRet (dOp addD (dOp modD (dOp ixD (dVar 0) (dOp modD (dVar 1) (dCB lenD (dCons (dVar 0) dNil)))) (dC (.int 1000003))) (dOp mulD (dC (.int 103)) (dVar 1))))))
theorem red__law_cell : ∀ ds w Q E, sp__law_cell ds w Q E → t__law_cell E { nx := fun _ w1 => Q .non w1, rt := Q } (startD ["_law_script", "_law_at"] ds) w := by
  rintro ds w Q E ⟨ns, i, rfl, h0, h1, q⟩
  unfold t__law_cell
  walk_at "td"
  rw [pos_ints_len]
  unfold cellM at q
  split
  · rename_i hi
    rw [if_pos hi] at q
    rw [ixD_r (atI_ints h0 hi)]
    exact q
  · rename_i hi
    rw [if_neg hi] at q
    split
    · rename_i hl
      rw [if_pos (by omega)] at q
      exact ⟨.inl ⟨by decide, by decide⟩, q⟩
    · rename_i hl
      rw [if_neg (by omega)] at q
      have hp : (0 : Int) < ns.length := by omega
      refine ⟨hp, ?_⟩
      have m0 : 0 ≤ i % (ns.length : Int) := Int.emod_nonneg i (by omega)
      have m1 : i % (ns.length : Int) < ns.length := Int.emod_lt_of_pos i hp
      rw [ixD_r (atI_ints m0 m1), modD_ii]
      exact ⟨by decide, .inl ⟨by decide, by decide⟩, q⟩
/-! ### rows of numbers -/
def digM (size : Int) : Nat → Int → List Int
  | 0, _ => []
  | n + 1, r => r % size :: digM size n (r / size)
def seedM (k : Nat) (s : Int) : Int := (s * 48271 + 12345 + k) % 2147483647
def mixM (s : Int) : Int := s * (s % 65521 + 3) / 1009 % 1000003
def lcgM (size : Int) : Nat → Nat → Int → List Int
  | 0, _, _ => []
  | n + 1, k, s => mixM (seedM k s) % size :: lcgM size n (k + 1) (seedM k s)
def rowM (c : Int) (many : Nat) (size : Int) : List Int := if 10 ^ 18 ≤ c then digM size many (c - 10 ^ 18) else lcgM size many 0 (c % 2147483647)
theorem digM_ok {size : Int} (h : 0 < size) : ∀ (n : Nat) (r : Int), (digM size n r).length = n ∧ ∀ x ∈ digM size n r, 0 ≤ x ∧ x < size
  | 0, _ => ⟨rfl, fun _ z => nomatch z⟩
  | n + 1, r => by
    obtain ⟨h1, h2⟩ := digM_ok h n (r / size)
    refine ⟨by show (digM size n (r / size)).length + 1 = _; rw [h1], fun x hx => ?_⟩
    rcases List.mem_cons.mp hx with e | e
    · rw [e]; exact ⟨Int.emod_nonneg _ (by omega), Int.emod_lt_of_pos _ h⟩
    · exact h2 x e
theorem lcgM_ok {size : Int} (h : 0 < size) : ∀ (n k : Nat) (s : Int), (lcgM size n k s).length = n ∧ ∀ x ∈ lcgM size n k s, 0 ≤ x ∧ x < size
  | 0, _, _ => ⟨rfl, fun _ z => nomatch z⟩
  | n + 1, k, s => by
    obtain ⟨h1, h2⟩ := lcgM_ok h n (k + 1) (seedM k s)
    refine ⟨by show (lcgM size n (k + 1) (seedM k s)).length + 1 = _; rw [h1], fun x hx => ?_⟩
    rcases List.mem_cons.mp hx with e | e
    · rw [e]; exact ⟨Int.emod_nonneg _ (by omega), Int.emod_lt_of_pos _ h⟩
    · exact h2 x e
theorem rowM_len {c : Int} {many : Nat} {size : Int} (h : 0 < size) : (rowM c many size).length = many := by
  unfold rowM; split
  · exact (digM_ok h _ _).1
  · exact (lcgM_ok h _ _ _).1
theorem rowM_mem {c : Int} {many : Nat} {size : Int} (h : 0 < size) : ∀ x ∈ rowM c many size, 0 ≤ x ∧ x < size := by
  unfold rowM; split
  · exact (digM_ok h _ _).2
  · exact (lcgM_ok h _ _ _).2
theorem rowM_at {c : Int} {many : Nat} {size : Int} (h : 0 < size) {i : Nat} (hi : i < many) : 0 ≤ (rowM c many size).getD i 0 ∧ (rowM c many size).getD i 0 < size := by
  have hl : i < (rowM c many size).length := by rw [rowM_len h]; exact hi
  rw [List.getD_eq_getElem?_getD, List.getElem?_eq_getElem hl]
  exact rowM_mem h _ (List.getElem_mem hl)
def sp__law_row : DSp := fun ds w Q _ => ∃ (c : Int) (many : Nat) (size : Int), ds = [.int c, .int many, .int size] ∧ many ≤ 1000 ∧ 0 < size ∧ size < 1000000 ∧ Q (.lst ((rowM c many size).map D.int)) w
def t__law_row (E : DX) : DS :=
  let W' : DWX := fun c d _ w => E c d w
  (dSeq (dAsg (dLstO dNil) 3) (dSeq (dIf (dB (dOp geD (dVar 0) (dOp powD (dC (.int 10)) (dC (.int 18))))) (dSeq (dAsg (dOp subD (dVar 0) (dOp powD (dC (.int 10)) (dC (.int 18)))) 6) (dSeq (dFor (diR1 (dCons (dVar 1) dNil)) (dgName 5) (dSeq (dDrop (dBM "list" appD (dVar 3) (dCons (dOp modD (dVar 6) (dVar 2)) dNil))) (dAsg (dOp fdivD (dVar 6) (dVar 2)) 6))) (dFrz 3 (dRet (dVar 3))))) dNext) (dSeq (dAsg (dOp modD (dVar 0) (dC (.int 2147483647))) 4) (dSeq (dFor (diR1 (dCons (dVar 1) dNil)) (dgName 5) (dSeq (dAsg (dOp modD (dOp addD (dOp addD (dOp mulD (dVar 4) (dC (.int 48271))) (dC (.int 12345))) (dVar 5)) (dC (.int 2147483647))) 4) (dSeq (dAsg (dOp modD (dOp fdivD (dOp mulD (dVar 4) (dOp addD (dOp modD (dVar 4) (dC (.int 65521))) (dC (.int 3)))) (dC (.int 1009))) (dC (.int 1000003))) 7) (dDrop (dBM "list" appD (dVar 3) (dCons (dOp modD (dVar 7) (dVar 2)) dNil)))))) (dFrz 3 (dRet (dVar 3)))))))
theorem red__law_row : ∀ ds w Q E, sp__law_row ds w Q E → t__law_row E { nx := fun _ w1 => Q .non w1, rt := Q } (startD ["_law_cell_here", "_law_many", "_law_size", "_law_row_here", "_law_seed", "_law_k", "_law_rest", "_law_mixed"] ds) w := by
  rintro ds w Q E ⟨c, many, size, rfl, hm, hs0, hs1, q⟩
  unfold t__law_row
  walk_at "td"
  refine ⟨by decide, fun p hp => ⟨⟨by decide, by decide, by decide⟩, ?_⟩⟩
  unfold rowM at q
  split
  · rename_i hc
    rw [if_pos hc] at q
    refine ⟨⟨by decide, by decide, by decide⟩, ?_⟩
    refine dFor_r1 (fun i S2 w2 => ∃ (pre : List Int) (rest : Int) (k : Option D), pre.length = i ∧ pre ++ digM size (many - i) rest = digM size many (c - 10 ^ 18) ∧
      S2 = [some (.int c), some (.int many), some (.int size), some (.ref p), none, k, some (.int rest), none] ∧ w2 = put w p (.lst (pre.map D.int))) (n := many) (fun R h => h) (by omega) (by omega) ⟨[], _, none, rfl, rfl, rfl, rfl⟩ ?_ ?_
    · rintro i S2 w2 hi ⟨pre, rest, k, hl, he, rfl, rfl⟩
      walk_at "td"
      refine ⟨hs0, smallL (by rw [pos_ints_len]; omega), ⟨hs0, by omega⟩, pre ++ [rest % size], rest / size, _, by simp [hl], ?_, rfl, by simp⟩
      have e : many - i = (many - (i + 1)) + 1 := by omega
      rw [← he, e, List.append_assoc]
      rfl
    · rintro S2 w2 ⟨pre, rest, k, hl, he, rfl, rfl⟩
      walk_at "td"
      rw [rid_put hp]
      have e : many - ((many : Int)).toNat = 0 := by omega
      rw [e] at he
      rw [← he] at q
      simpa [digM] using q
  · rename_i hc
    rw [if_neg hc] at q
    refine ⟨by decide, ?_⟩
    refine dFor_r1 (fun i S2 w2 => ∃ (pre : List Int) (seed : Int) (k m : Option D), 0 ≤ seed ∧ seed < 2147483647 ∧ pre.length = i ∧ pre ++ lcgM size (many - i) i seed = lcgM size many 0 (c % 2147483647) ∧
      S2 = [some (.int c), some (.int many), some (.int size), some (.ref p), some (.int seed), k, none, m] ∧ w2 = put w p (.lst (pre.map D.int))) (n := many) (fun R h => h) (by omega) (by omega) ⟨[], _, none, none, Int.emod_nonneg _ (by decide), Int.emod_lt_of_pos _ (by decide), rfl, rfl, rfl, rfl⟩ ?_ ?_
    · rintro i S2 w2 hi ⟨pre, seed, k, m, s0, s1, hl, he, rfl, rfl⟩
      walk_at "td"
      have a0 : 0 ≤ seedM i seed := Int.emod_nonneg _ (by decide)
      have a1 : seedM i seed < 2147483647 := Int.emod_lt_of_pos _ (by decide)
      have b0 : 0 ≤ seedM i seed % 65521 := Int.emod_nonneg _ (by decide)
      have b1 : seedM i seed % 65521 < 65521 := Int.emod_lt_of_pos _ (by decide)
      refine ⟨.inr ⟨by decide, by decide⟩, by decide, by decide, .inl ⟨by show -(2 ^ 64) < seedM i seed; omega, by show seedM i seed < 2 ^ 64; omega⟩, ⟨by decide, by decide⟩, by decide, hs0, smallL (by rw [pos_ints_len]; omega), ?_⟩
      refine ⟨pre ++ [mixM (seedM i seed) % size], seedM i seed, _, _, a0, a1, by simp [hl], ?_, rfl, by simp [mixM, seedM]⟩
      have e : many - i = (many - (i + 1)) + 1 := by omega
      rw [← he, e, List.append_assoc]
      rfl
    · rintro S2 w2 ⟨pre, seed, k, m, s0, s1, hl, he, rfl, rfl⟩
      walk_at "td"
      rw [rid_put hp]
      have e : many - ((many : Int)).toNat = 0 := by omega
      rw [e] at he
      rw [← he] at q
      simpa [lcgM] using q
/-! ### like -/
section
variable {w : Wd} {Q : DKt} {x y d : D} {xs : List D} {i : Int} {a n : String}
theorem getM_cases (h : getM w x = some xs) : x = .lst xs ∨ ∃ p, x = .ref p ∧ w p = some (.lst xs) := by
  unfold getM at h
  split at h
  · cases h; exact .inl rfl
  · split at h
    · rename_i p _ ys hw; cases h; exact .inr ⟨p, rfl, hw⟩
    · cases h
  · cases h
theorem tyN_m (h : getM w x = some xs) : tyN w x = some "list" := by
  rcases getM_cases h with e | ⟨p, e, hw⟩
  · rw [e]; rfl
  · rw [e]; unfold tyN; simp only [hw]
theorem isNon_m (h : getM w x = some xs) : isNon x = false := by
  rcases getM_cases h with e | ⟨p, e, hw⟩ <;> (rw [e]; rfl)
theorem lenD_m (h : getM w x = some xs) : lenD [x] w Q = Q (.int xs.length) w := by
  rcases getM_cases h with e | ⟨p, e, hw⟩
  · rw [e]; rfl
  · rw [e]; exact lenD_w hw
theorem ixD_m (h : getM w x = some xs) (ha : atI xs i = some d) : ixD x (.int i) w Q = Q d w := by
  rcases getM_cases h with e | ⟨p, e, hw⟩
  · rw [e]; exact ixD_l ha
  · rw [e]; exact ixD_w hw ha
theorem isiD_of (h : tyN w x = some a) (hn : n ∈ tys2) : isiD [x, .ty n] w Q = Q (.bl (subTy a n)) w := by
  unfold isiD; simp only [h, hn, true_and]
end
/-- the same data -/
def likeD (w : Wd) : Nat → D → D → Prop
  | 0, _, _ => False
  | n + 1, x, y => (x = .non ∧ y = .non) ∨ (∃ b, x = .bl b ∧ y = .bl b) ∨ (∃ i, x = .int i ∧ y = .int i) ∨ (∃ s, x = .str s ∧ y = .str s) ∨
    (∃ xs ys, x = .tup xs ∧ y = .tup ys ∧ xs.length = ys.length ∧ ys.length ≤ 100000 ∧ ∀ (i : Nat) d e, xs[i]? = some d → ys[i]? = some e → likeD w n d e) ∨
    ∃ xs ys, getM w x = some xs ∧ getM w y = some ys ∧ xs.length = ys.length ∧ ys.length ≤ 100000 ∧ ∀ (i : Nat) d e, xs[i]? = some d → ys[i]? = some e → likeD w n d e
def sp_like (n : Nat) : DSp := fun ds w Q _ => ∃ x y, ds = [x, y] ∧ likeD w n x y ∧ Q (.bl true) w
theorem like0 {K : PySem.W.Frag} {vs : List V} {H : Hp} {Q : VK} {E : XK} (h : lift K (sp_like 0) vs H Q E) : False := by
  obtain ⟨_, _, _, _, _, _, _, ⟨_, _, _, z, _⟩, _⟩ := h
  exact z
def t__law_like (n : Nat) (E : DX) : DS :=
  let W' : DWX := fun c d _ w => E c d w
  (dSeq (dIf (dB (dOp (isN false) (dVar 1) (dC .non))) (dRet (dOp (isN false) (dVar 0) (dC .non))) dNext) (dSeq (dIf (dB (dCB isiD (dCons (dVar 1) (dCons (dC (.ty "bool")) dNil)))) (dRet (dAndV (dCB isiD (dCons (dVar 0) (dCons (dC (.ty "bool")) dNil))) (dOp (eqD false) (dVar 0) (dVar 1)))) dNext) (dSeq (dIf (dB (dCB isiD (dCons (dVar 1) (dCons (dC (.ty "int")) dNil)))) (dRet (dAndV (dCB isiD (dCons (dVar 0) (dCons (dC (.ty "int")) dNil))) (dAndV (dNotV (dCB isiD (dCons (dVar 0) (dCons (dC (.ty "bool")) dNil)))) (dOp (eqD false) (dVar 0) (dVar 1))))) dNext) (dSeq (dIf (dB (dCB isiD (dCons (dVar 1) (dCons (dC (.ty "str")) dNil)))) (dRet (dAndV (dCB isiD (dCons (dVar 0) (dCons (dC (.ty "str")) dNil))) (dOp (eqD false) (dVar 0) (dVar 1)))) dNext) (dSeq (dIf (dOr (dB (dOp (eqD true) (dCB isiD (dCons (dVar 1) (dCons (dC (.ty "list")) dNil))) (dCB isiD (dCons (dVar 0) (dCons (dC (.ty "list")) dNil))))) (dB (dOp (eqD true) (dCB isiD (dCons (dVar 1) (dCons (dC (.ty "tuple")) dNil))) (dCB isiD (dCons (dVar 0) (dCons (dC (.ty "tuple")) dNil)))))) (dRet (dC (.bl false))) dNext) (dRet (dAndV (dOp (eqD false) (dCB lenD (dCons (dVar 0) dNil)) (dCB lenD (dCons (dVar 1) dNil))) (dCB allD (dCons (dLc (diR1 (dCons (dCB lenD (dCons (dVar 1) dNil)) dNil)) (.one 2) dYes (dCall (sp_like n) DW0 (dCons (dOp ixD (dVar 0) (dVar 2)) (dCons (dOp ixD (dVar 1) (dVar 2)) dNil)))) dNil)))))))))
/-- the last row, where both are rows of one length -/
theorem like_rows {n : Nat} {w : Wd} {x y : D} {xs ys : List D} {Q : DKt} (hlx : ∀ Q : DKt, lenD [x] w Q = Q (.int xs.length) w) (hly : ∀ Q : DKt, lenD [y] w Q = Q (.int ys.length) w) (hix : ∀ (i : Nat) d (Q : DKt), xs[i]? = some d → ixD x (.int i) w Q = Q d w) (hiy : ∀ (i : Nat) d (Q : DKt), ys[i]? = some d → ixD y (.int i) w Q = Q d w)
    (hl : xs.length = ys.length) (hm : ys.length ≤ 100000) (h : ∀ (i : Nat) d e, xs[i]? = some d → ys[i]? = some e → likeD w n d e) (q : Q (.bl true) w) {o : Option D} :
    dCB allD (dCons (dLc (diR1 (dCons (dCB lenD (dCons (dVar 1) dNil)) dNil)) (.one 2) dYes (dCall (sp_like n) DW0 (dCons (dOp ixD (dVar 0) (dVar 2)) (dCons (dOp ixD (dVar 1) (dVar 2)) dNil)))) dNil) [some x, some y, o] w Q := by
  show dLc (diR1 (dCons (dCB lenD (dCons (dVar 1) dNil)) dNil)) (.one 2) dYes (dCall (sp_like n) DW0 (dCons (dOp ixD (dVar 0) (dVar 2)) (dCons (dOp ixD (dVar 1) (dVar 2)) dNil))) [some x, some y, o] w (fun d w1 => allD [d] w1 Q)
  refine dLc_r1 (n := ys.length) (f := fun _ => .bl true) (fun R h => ?_) (by omega) (by omega) (fun i hi => ?_) ?_
  · walk_at "td"
    rw [hly]
    exact h
  · have hiy' : i < ys.length := by omega
    have hix' : i < xs.length := by omega
    walk_at "td"
    rw [hix i _ _ (List.getElem?_eq_getElem hix')]
    rw [hiy i _ _ (List.getElem?_eq_getElem hiy')]
    exact ⟨_, _, rfl, h i _ _ (List.getElem?_eq_getElem hix') (List.getElem?_eq_getElem hiy'), rfl, rfl⟩
  · show allD [.lst _] w Q
    have e : ((List.range ((ys.length : Int)).toNat).map fun _ => D.bl true) = ((List.range ((ys.length : Int)).toNat).map fun _ => true).map D.bl := by rw [List.map_map]; rfl
    rw [e, allD_l]
    have e2 : ((List.range ((ys.length : Int)).toNat).map fun _ => true).all id = true := by simp
    rw [e2]
    exact q
theorem red__law_like (n : Nat) : ∀ ds w Q E, sp_like (n + 1) ds w Q E → t__law_like n E { nx := fun _ w1 => Q .non w1, rt := Q } (startD ["_law_found", "_law_due", "_law_k"] ds) w := by
  rintro ds w Q E ⟨x, y, rfl, h, q⟩
  have z1 : subTy "int" "bool" = false := by decide
  have z2 : subTy "str" "bool" = false := by decide
  have z3 : subTy "str" "int" = false := by decide
  have z4 : subTy "bool" "bool" = true := by decide
  have z5 : subTy "int" "int" = true := by decide
  have z6 : subTy "str" "str" = true := by decide
  have l1 : subTy "list" "bool" = false := by decide
  have l2 : subTy "list" "int" = false := by decide
  have l3 : subTy "list" "str" = false := by decide
  have l4 : subTy "list" "list" = true := by decide
  have l5 : subTy "list" "tuple" = false := by decide
  have t1 : subTy "tuple" "bool" = false := by decide
  have t2 : subTy "tuple" "int" = false := by decide
  have t3 : subTy "tuple" "str" = false := by decide
  have t4 : subTy "tuple" "list" = false := by decide
  have t5 : subTy "tuple" "tuple" = true := by decide
  have m1 : "bool" ∈ tys2 := by decide
  have m2 : "int" ∈ tys2 := by decide
  have m3 : "str" ∈ tys2 := by decide
  have m4 : "list" ∈ tys2 := by decide
  have m5 : "tuple" ∈ tys2 := by decide
  unfold t__law_like
  rcases h with ⟨rfl, rfl⟩ | ⟨b, rfl, rfl⟩ | ⟨i, rfl, rfl⟩ | ⟨s, rfl, rfl⟩ | ⟨xs, ys, rfl, rfl, hl, hm, h⟩ | ⟨xs, ys, hx, hy, hl, hm, h⟩
  · walk_at "td"; exact q
  · have e : tyN w (.bl b) = some "bool" := rfl
    walk_at "td"; simp only [isiD_of e m1, z4]; walk_at "td"; simpa using q
  · have e : tyN w (.int i) = some "int" := rfl
    walk_at "td"; simp only [isiD_of e m1, isiD_of e m2, z1, z5]; walk_at "td"; simpa using q
  · have e : tyN w (.str s) = some "str" := rfl
    walk_at "td"; simp only [isiD_of e m1, isiD_of e m2, isiD_of e m3, z2, z3, z6]; walk_at "td"; simpa using q
  · have ex : tyN w (.tup xs) = some "tuple" := rfl
    have ey : tyN w (.tup ys) = some "tuple" := rfl
    repeat (first | (simp only [isiD_of ex m1, isiD_of ex m2, isiD_of ex m3, isiD_of ex m4, isiD_of ex m5, isiD_of ey m1, isiD_of ey m2, isiD_of ey m3, isiD_of ey m4, isiD_of ey m5, t1, t2, t3, t4, t5, hl]) | walk_at "td")
    have k := like_rows (x := .tup xs) (y := .tup ys) (o := none) (Q := Q) (fun Q => lenD_t) (fun Q => lenD_t) (fun i d Q hd => ixD_t (atI_nat hd)) (fun i d Q hd => ixD_t (atI_nat hd)) hl hm h q
    exact k
  · have ex := tyN_m hx
    have ey := tyN_m hy
    repeat (first | (simp only [isNon_m hy, isiD_of ex m1, isiD_of ex m2, isiD_of ex m3, isiD_of ex m4, isiD_of ex m5, isiD_of ey m1, isiD_of ey m2, isiD_of ey m3, isiD_of ey m4, isiD_of ey m5, l1, l2, l3, l4, l5, lenD_m hx, lenD_m hy, hl]) | walk_at "td")
    have k := like_rows (x := x) (y := y) (o := none) (Q := Q) (fun Q => lenD_m hx) (fun Q => lenD_m hy) (fun i d Q hd => ixD_m hx (atI_nat hd)) (fun i d Q hd => ixD_m hy (atI_nat hd)) hl hm h q
    exact k
end TD

set_option maxHeartbeats 4000000
namespace TD
open PySem PySem.Spec PyProof.Rows L2
theorem like_int {w : Wd} {n : Nat} (i : Int) : likeD w (n + 1) (.int i) (.int i) := .inr (.inr (.inl ⟨i, rfl, rfl⟩))
theorem like_str {w : Wd} {n : Nat} (s : Str) : likeD w (n + 1) (.str s) (.str s) := .inr (.inr (.inr (.inl ⟨s, rfl, rfl⟩)))
theorem like_bl {w : Wd} {n : Nat} (b : Bool) : likeD w (n + 1) (.bl b) (.bl b) := .inr (.inl ⟨b, rfl, rfl⟩)
theorem like_non {w : Wd} {n : Nat} : likeD w (n + 1) .non .non := .inl ⟨rfl, rfl⟩
theorem like_rows2 {w : Wd} {n : Nat} {x y : D} {xs : List D} (hx : getM w x = some xs) (hy : getM w y = some xs) (hl : xs.length ≤ 100000) (h : ∀ d ∈ xs, likeD w n d d) : likeD w (n + 1) x y :=
  .inr (.inr (.inr (.inr (.inr ⟨xs, xs, hx, hy, rfl, hl, fun i d e hd he => by rw [hd] at he; cases he; exact h d (List.mem_of_getElem? hd)⟩))))
theorem like_tup {w : Wd} {n : Nat} {xs ys : List D} (hl : xs.length = ys.length) (hm : ys.length ≤ 100000) (h : ∀ (i : Nat) d e, xs[i]? = some d → ys[i]? = some e → likeD w n d e) : likeD w (n + 1) (.tup xs) (.tup ys) :=
  .inr (.inr (.inr (.inr (.inl ⟨xs, ys, rfl, rfl, hl, hm, h⟩))))
theorem like_tup2 {w : Wd} {n : Nat} {a b c d : D} (h1 : likeD w n a c) (h2 : likeD w n b d) : likeD w (n + 1) (.tup [a, b]) (.tup [c, d]) :=
  like_tup rfl (show 2 ≤ 100000 by decide) fun i x y hx hy => by
    match i with
    | 0 => cases hx; cases hy; exact h1
    | 1 => cases hx; cases hy; exact h2
theorem like_ints {w : Wd} {n : Nat} {x y : D} {ns : List Int} (hx : getM w x = some (ns.map D.int)) (hy : getM w y = some (ns.map D.int)) (hl : ns.length ≤ 100000) : likeD w (n + 2) x y :=
  like_rows2 hx hy (by rw [List.length_map]; exact hl) fun d hd => by
    obtain ⟨i, _, rfl⟩ := List.mem_map.mp hd
    exact like_int i
theorem getM_l {w : Wd} {xs : List D} : getM w (.lst xs) = some xs := rfl
theorem getM_w {w : Wd} {p : Addr} {xs : List D} (h : w p = some (.lst xs)) : getM w (.ref p) = some xs := by
  unfold getM; simp only [h]
theorem pyOf_ints {w : Wd} (ns : List Int) : pyOf w (iL ns) = some (.list (ns.map PyData.int)) := by
  show toPy (.lst _) = _
  rw [toPy, toPyL_ints]; rfl
theorem pyOf_refInts {w : Wd} {p : Addr} {ns : List Int} (h : w p = some (.lst (ns.map D.int))) : pyOf w (.ref p) = some (.list (ns.map PyData.int)) := by
  unfold pyOf; simp only [h, toPyL_ints]; rfl
end TD

set_option maxHeartbeats 4000000
namespace TD
open PySem PySem.Spec PyProof.Rows L2
local macro_rules | `(tactic| walk_at "td") => `(tactic| simp only [dSeq, dIf, dB, dOp, dUn, dCB, dVar, dC, dRet, dRetN, dNext, dDrop, dAsg, dAnd, dOr, dNot, dAndV, dOrV, dNotV, dIfE, dChain, dCons, dNil, dTup, dLst, dLstO, dCall, dSl, dPart, dNoPart, dBM, dBM0, dAug, dAsgG, dgName, dgTup, setAll, dCont, dBreak,
  addD_ii, addD_ss, addD_tt, addD_ll, subD_ii, mulD_ii, mulD_li, fdivD_ii, modD_ii, powD_ii, negD_i, ltD_ii, leD_ii, gtD_ii, geD_ii, eqD_ii, eqD_ss, eqD_bb, eqD_nn, eqD_ni, eqD_in, isN_x, isNon_non, isNon_int, isNon_str, isNon_bl, isNon_lst, isNon_tup, isNon_ref, lenD_l, lenD_r, lenD_t, lenD_s, slD_l, slD_t, slD_s, listD_l, listD_r, listD_t, listD_lO, listD_tO, tupleD_l, tupleD_t, sumD_l, allD_l, maxD_ii, minD_ii, absD_i, atSeq_l, atSeq_r, wipeD, dTy_put, app_put, true_and, and_true, dFrz, put_same, Option.bind_some, frzD_lst,
  startD, List.map_cons, List.map_nil, List.cons_append, List.nil_append, List.length_cons, List.length_nil, List.getElem?_cons_zero, List.getElem?_cons_succ, List.set_cons_zero, List.set_cons_succ, List.replicate_succ, List.replicate_zero, List.append_nil, Nat.reduceAdd, Nat.reduceSub, Int.reduceToNat, decide_eq_true_eq, Bool.false_bne, Bool.true_bne, Bool.not_eq_true', Bool.not_eq_true, decide_eq_false_iff_not, Bool.false_eq_true, Bool.true_eq_false, if_true, if_false, ite_true, ite_false, reduceIte])
local macro_rules | `(tactic| walk_at "leaf") => `(tactic| (intro Q q; first | exact q | exact ⟨by omega, q⟩ | exact ⟨⟨by omega, by omega⟩, q⟩ | exact ⟨.inl ⟨by omega, by omega⟩, q⟩ | exact ⟨.inr ⟨by omega, by omega⟩, q⟩ | (rw [ixD_l (atI_ints (by first | omega | grind) (by first | omega | grind))]; exact q) | (rw [inD_lst rfl (all_ints _), inL_ints]; exact q) | (rw [lenD_l, List.length_map]; exact q) | (rw [lenD_r, List.length_map]; exact q)))
local macro_rules | `(tactic| walk_at "ev") => `(tactic| repeat' (first | exact eve_var rfl | exact eve_c | exact eva_nil | apply evt_and | apply evt_or | apply evt_not | apply evt_B | apply eva_cons | apply eve_and | apply eve_or | apply eve_not | apply eve_chain | apply eve_op | apply eve_un | apply eve_cb | (refine Gd.mk (fun _ => ?_)) | (refine Gn.mk (fun _ => ?_)) | walk_at "leaf"))
local macro_rules | `(tactic| walk_at "bl") => `(tactic| simp only [Bool.false_bne, Bool.true_bne, Bool.and_eq_true, Bool.or_eq_true, Bool.and_eq_false_iff, Bool.or_eq_false_iff, Bool.not_eq_true', Bool.not_eq_false', Bool.not_not, decide_eq_true_eq, decide_eq_false_iff_not] at *)
/-! ### words -/
abbrev abc : Str := "abcdefghijklmnopqrstuvwxyz"
def isLet (c : Nat) : Bool := decide (c ∈ abc.cps.toList)
def wordB (z : Str) : Bool := decide (1 ≤ z.length) && decide (z.length ≤ 12) && z.cps.toList.all isLet
def chs (z : Str) : List D := z.cps.toList.map fun c => D.str ⟨#[c]⟩
theorem chs_len (z : Str) : (chs z).length = z.length := by unfold chs; rw [List.length_map]; rfl
theorem dLc_sf {tl te : DE} {tt : DT} {T : Tgt} {S : DSt} {w : Wd} {Q : DKt} {z : Str} {c : D → Bool} {f : D → D} (ha : ∀ R : D → Wd → Prop, R (.str z) w → tl S w R) (h2 : z.length ≤ 100000) (he : ∀ d ∈ chs z, T.dg d (wipeD S T.vs) fun S2 => EvT tt S2 w (c d) ∧ (c d = true → EvE te S2 w (f d)))
    (hq : Q (.lst (((chs z).filter c).map f)) w) : dLc (diS tl) T tt te S w Q := by
  refine ha _ ⟨_, lc_fl (xs := chs z) (show (itS z).n = _ by rw [chs_len]; rfl) (fun i d h => ?_) (by rw [chs_len]; exact h2) trivial he, ?_⟩
  · unfold chs at h
    rw [List.getElem?_map] at h
    cases e : z.cps.toList[i]? with
    | none => rw [e] at h; cases h
    | some c =>
      rw [e] at h; cases h
      show D.str ⟨#[z.cps.toList.getD i 0]⟩ = _
      rw [List.getD_eq_getElem?_getD, e]; rfl
  · have e : (itS z).n = (chs z).length := by rw [chs_len]; rfl
    show Q (.lst ((((chs z).take (itS z).n).filter c).map f)) w
    rw [e, List.take_length]; exact hq
theorem inD_let {neg : Bool} {c : Nat} {w : Wd} {Q : DKt} : inD neg (.str ⟨#[c]⟩) (.str abc) w Q = Q (.bl (neg != isLet c)) w := inD_c rfl
def sp_is_word : DSp := fun ds w Q _ => ∃ z : Str, ds = [.str z] ∧ z.length ≤ 100000 ∧ Q (.bl (wordB z)) w
def sp_check_word (K : PySem.W.Frag) : DSp := fun ds w Q E => ∃ z : Str, ds = [.str z] ∧ z.length ≤ 100000 ∧ if wordB z = true then Q .non w else E (cls K "BadWord") none w
def t_is_word (E : DX) : DS :=
  let W' : DWX := fun c d _ w => E c d w
  (dRet (dAndV (dChain leD leD (dC (.int 1)) (dCB lenD (dCons (dVar 0) dNil)) (dC (.int 12))) (dCB allD (dCons (dLc (diS (dVar 0)) (.one 1) dYes (dOp (inD false) (dVar 1) (dC (.str "abcdefghijklmnopqrstuvwxyz")))) dNil))))
def t_check_word (K : PySem.W.Frag) (E : DX) : DS :=
  let W' : DWX := fun c d _ w => E c d w
  (dIf (dNot (dB (dCall sp_is_word W' (dCons (dVar 0) dNil)))) (dRaise (cls K "BadWord") W') dNext)
theorem ev_len {te : DE} {S : DSt} {w : Wd} {z : Str} (h : EvE te S w (.str z)) (hz : z.length ≤ 100000) : EvE (dCB lenD (dCons te dNil)) S w (.int z.length) := fun Q q => h _ (by show lenD [.str z] w Q; rw [lenD_s]; exact ⟨small hz, q⟩)
theorem red_is_word : ∀ ds w Q E, sp_is_word ds w Q E → t_is_word E { nx := fun _ w1 => Q .non w1, rt := Q } (startD ["text", "letter"] ds) w := by
  rintro ds w Q E ⟨z, rfl, hz, q⟩
  unfold t_is_word
  refine dRet_ev (d := .bl (decide ((1 : Int) ≤ z.length) && decide ((z.length : Int) ≤ 12) && z.cps.toList.all isLet)) (eve_and (eve_chain eve_c (ev_len (eve_var rfl) hz) (by walk_at "leaf") ⟨fun _ => eve_c⟩ ⟨fun _ => by walk_at "leaf"⟩) ⟨fun _ => ?_⟩) ?_
  · intro Q q
    simp only [dCB, dCons, dNil]
    refine dLc_sf (z := z) (c := fun _ => true) (f := fun d => match d with | .str y => .bl (isLet (y.cps.toList.getD 0 0)) | _ => .non) (fun R h => by exact h) hz (fun d hd => ?_) ?_
    · unfold chs at hd
      obtain ⟨c, _, rfl⟩ := List.mem_map.mp hd
      refine ⟨evt_yes, fun _ Q q => ?_⟩
      show inD false (.str ⟨#[c]⟩) (.str abc) w Q
      rw [inD_let, Bool.false_bne]; exact q
    · show allD [.lst (((chs z).filter fun _ => true).map (fun d => match d with | .str y => D.bl (isLet (y.cps.toList.getD 0 0)) | _ => .non))] w Q
      have e : ((chs z).filter fun _ => true).map (fun d => match d with | .str y => D.bl (isLet (y.cps.toList.getD 0 0)) | _ => .non) = (z.cps.toList.map isLet).map D.bl := by
        rw [List.filter_eq_self.mpr (fun _ _ => rfl)]
        unfold chs
        rw [List.map_map, List.map_map]
        rfl
      rw [e, allD_l, List.all_map]
      exact q
  · have e : wordB z = (decide ((1 : Int) ≤ z.length) && decide ((z.length : Int) ≤ 12) && z.cps.toList.all isLet) := by
      unfold wordB
      congr 1
      congr 1 <;> (apply decide_eq_decide.mpr; omega)
    rw [← e]; exact q
theorem red_check_word {K : PySem.W.Frag} : ∀ ds w Q E, sp_check_word K ds w Q E → t_check_word K E { nx := fun _ w1 => Q .non w1, rt := Q } (startD ["text"] ds) w := by
  rintro ds w Q E ⟨z, rfl, hz, q⟩
  unfold t_check_word
  walk_at "td"
  refine ⟨z, rfl, hz, ?_⟩
  cases hs : wordB z with
  | true => rw [hs] at q; exact q
  | false => rw [hs] at q; exact q
end TD

set_option maxHeartbeats 4000000
namespace TD
open PySem PySem.Spec PyProof.Rows L2
local macro_rules | `(tactic| walk_at "td") => `(tactic| simp only [dSeq, dIf, dB, dOp, dUn, dCB, dVar, dC, dRet, dRetN, dNext, dDrop, dAsg, dAnd, dOr, dNot, dAndV, dOrV, dNotV, dIfE, dChain, dCons, dNil, dTup, dLst, dLstO, dCall, dSl, dPart, dNoPart, dBM, dBM0, dAug, dAsgG, dgName, dgTup, setAll, dCont, dBreak,
  addD_ii, addD_ss, addD_tt, addD_ll, subD_ii, mulD_ii, mulD_li, fdivD_ii, modD_ii, powD_ii, negD_i, ltD_ii, leD_ii, gtD_ii, geD_ii, eqD_ii, eqD_ss, eqD_bb, eqD_nn, eqD_ni, eqD_in, isN_x, isNon_non, isNon_int, isNon_str, isNon_bl, isNon_lst, isNon_tup, isNon_ref, lenD_l, lenD_r, lenD_t, lenD_s, slD_l, slD_t, slD_s, listD_l, listD_r, listD_t, listD_lO, listD_tO, tupleD_l, tupleD_t, sumD_l, allD_l, maxD_ii, minD_ii, absD_i, atSeq_l, atSeq_r, wipeD, dTy_put, app_put, true_and, and_true, dFrz, put_same, Option.bind_some, frzD_lst,
  startD, List.map_cons, List.map_nil, List.cons_append, List.nil_append, List.length_cons, List.length_nil, List.getElem?_cons_zero, List.getElem?_cons_succ, List.set_cons_zero, List.set_cons_succ, List.replicate_succ, List.replicate_zero, List.append_nil, Nat.reduceAdd, Nat.reduceSub, Int.reduceToNat, decide_eq_true_eq, Bool.false_bne, Bool.true_bne, Bool.not_eq_true', Bool.not_eq_true, decide_eq_false_iff_not, Bool.false_eq_true, Bool.true_eq_false, if_true, if_false, ite_true, ite_false, reduceIte])
local macro_rules | `(tactic| walk_at "leaf") => `(tactic| (intro Q q; first | exact q | exact ⟨by omega, q⟩ | exact ⟨⟨by omega, by omega⟩, q⟩ | exact ⟨.inl ⟨by omega, by omega⟩, q⟩ | exact ⟨.inr ⟨by omega, by omega⟩, q⟩ | (rw [ixD_l (atI_ints (by first | omega | grind) (by first | omega | grind))]; exact q) | (rw [inD_lst rfl (all_ints _), inL_ints]; exact q) | (rw [lenD_l, List.length_map]; exact q) | (rw [lenD_r, List.length_map]; exact q)))
local macro_rules | `(tactic| walk_at "ev") => `(tactic| repeat' (first | exact eve_var rfl | exact eve_c | exact eva_nil | apply evt_and | apply evt_or | apply evt_not | apply evt_B | apply eva_cons | apply eve_and | apply eve_or | apply eve_not | apply eve_chain | apply eve_op | apply eve_un | apply eve_cb | (refine Gd.mk (fun _ => ?_)) | (refine Gn.mk (fun _ => ?_)) | walk_at "leaf"))
local macro_rules | `(tactic| walk_at "bl") => `(tactic| simp only [Bool.false_bne, Bool.true_bne, Bool.and_eq_true, Bool.or_eq_true, Bool.and_eq_false_iff, Bool.or_eq_false_iff, Bool.not_eq_true', Bool.not_eq_false', Bool.not_not, decide_eq_true_eq, decide_eq_false_iff_not] at *)
/-! ### a phrasebook -/
abbrev bkC (K : PySem.W.Frag) : Addr := He.ga K "Phrasebook"
abbrev bkF (a b : Addr) : List (Str × D) := [("by_place", .ref a), ("by_word", .ref b)]
def sp_Phrasebook_init (K : PySem.W.Frag) : DSp := fun ds w Q _ => ∃ p : Addr, ds = [.ref p] ∧ w p = some (.ins (bkC K) []) ∧ ∀ a b, w a = none → w b = none → a ≠ b → Q .non (put (put (put w p (.ins (bkC K) (bkF a b))) a (.dT [])) b (.dK []))
def sp_Phrasebook_place_of (K : PySem.W.Frag) : DSp := fun ds w Q E => ∃ (p a b : Addr) (z : Str) (kvs : List (L2.Key × D)), ds = [.ref p, .str z] ∧ z.length ≤ 100000 ∧ w p = some (.ins (bkC K) (bkF a b)) ∧ w b = some (.dK kvs) ∧ if wordB z = true then Q ((valD kvs (.inr z)).getD .non) w else E (cls K "BadWord") none w
def t_Phrasebook_init (K : PySem.W.Frag) (E : DX) : DS :=
  let W' : DWX := fun c d _ w => E c d w
  (dSeq (dFldS (He.ga K "Phrasebook") "by_place" (dVar 0) dNewT) (dFldS (He.ga K "Phrasebook") "by_word" (dVar 0) dNewK))
def t_Phrasebook_place_of (K : PySem.W.Frag) (E : DX) : DS :=
  let W' : DWX := fun c d _ w => E c d w
  (dSeq (dDrop (dCall ((sp_check_word K)) W' (dCons (dVar 1) dNil))) (dRet (dGet1 (dFld (He.ga K "Phrasebook") "by_word" (dVar 0)) (dVar 1))))
theorem red_Phrasebook_init {K : PySem.W.Frag} : ∀ ds w Q E, sp_Phrasebook_init K ds w Q E → t_Phrasebook_init K E { nx := fun _ w1 => Q .non w1, rt := Q } (startD ["self"] ds) w := by
  rintro ds w Q E ⟨p, rfl, hp, q⟩
  unfold t_Phrasebook_init dFldS dNewT dNewK
  walk_at "td"
  intro a ha
  have pa : p ≠ a := fun z => by rw [z, ha] at hp; cases hp
  rw [atO_w (show (put w a (.dT [])) p = some (.ins (bkC K) []) by rw [put_ne pa]; exact hp)]
  refine ⟨by decide, ?_⟩
  intro b hb
  have ba : b ≠ a ∧ b ≠ p ∧ w b = none := by
    obtain ⟨h1, h2⟩ := put_none hb
    obtain ⟨h3, h4⟩ := put_none h2
    exact ⟨h3, h1, h4⟩
  rw [atO_w (show (put (put (put w a (.dT [])) p (.ins (bkC K) (putD "by_place" (.ref a) []))) b (.dK [])) p = some (.ins (bkC K) (putD "by_place" (.ref a) [])) by rw [put_ne (Ne.symm ba.2.1), put_same])]
  refine ⟨by show 1 < 100; decide, ?_⟩
  have e := q a b ha ba.2.2 (Ne.symm ba.1)
  have e2 : putD "by_word" (.ref b) (putD "by_place" (.ref a) []) = bkF a b := rfl
  rw [ put_comm (a := b) (b := p) ba.2.1, put_put, put_comm (a := a) (b := p) (Ne.symm pa)]
  rw [e2]
  exact e
theorem red_Phrasebook_place_of {K : PySem.W.Frag} : ∀ ds w Q E, sp_Phrasebook_place_of K ds w Q E → t_Phrasebook_place_of K E { nx := fun _ w1 => Q .non w1, rt := Q } (startD ["self", "word"] ds) w := by
  rintro ds w Q E ⟨p, a, b, z, kvs, rfl, hz, hp, hb, q⟩
  unfold t_Phrasebook_place_of
  show dSeq _ _ _ _ _
  refine ⟨z, rfl, hz, ?_⟩
  cases hs : wordB z with
  | false => rw [hs] at q; exact q
  | true =>
    rw [hs] at q
    rw [if_pos rfl] at q ⊢
    dsimp only
    exact dRet_ev (d := (valD kvs (.inr z)).getD .non) (dGet1_ev (dFld_ev (eve_var rfl) hp rfl) (eve_var rfl) hb rfl) q
end TD

set_option maxHeartbeats 4000000
namespace TD
open PySem PySem.Spec PyProof.Rows L2
local macro_rules | `(tactic| walk_at "td") => `(tactic| simp only [dSeq, dIf, dB, dOp, dUn, dCB, dVar, dC, dRet, dRetN, dNext, dDrop, dAsg, dAnd, dOr, dNot, dAndV, dOrV, dNotV, dIfE, dChain, dCons, dNil, dTup, dLst, dLstO, dCall, dSl, dPart, dNoPart, dBM, dBM0, dAug, dAsgG, dgName, dgTup, setAll, dCont, dBreak,
  addD_ii, addD_ss, addD_tt, addD_ll, subD_ii, mulD_ii, mulD_li, fdivD_ii, modD_ii, powD_ii, negD_i, ltD_ii, leD_ii, gtD_ii, geD_ii, eqD_ii, eqD_ss, eqD_bb, eqD_nn, eqD_ni, eqD_in, isN_x, isNon_non, isNon_int, isNon_str, isNon_bl, isNon_lst, isNon_tup, isNon_ref, lenD_l, lenD_r, lenD_t, lenD_s, slD_l, slD_t, slD_s, listD_l, listD_r, listD_t, listD_lO, listD_tO, tupleD_l, tupleD_t, sumD_l, allD_l, maxD_ii, minD_ii, absD_i, atSeq_l, atSeq_r, wipeD, dTy_put, app_put, true_and, and_true, dFrz, put_same, Option.bind_some, frzD_lst,
  startD, List.map_cons, List.map_nil, List.cons_append, List.nil_append, List.length_cons, List.length_nil, List.getElem?_cons_zero, List.getElem?_cons_succ, List.set_cons_zero, List.set_cons_succ, List.replicate_succ, List.replicate_zero, List.append_nil, Nat.reduceAdd, Nat.reduceSub, Int.reduceToNat, decide_eq_true_eq, Bool.false_bne, Bool.true_bne, Bool.not_eq_true', Bool.not_eq_true, decide_eq_false_iff_not, Bool.false_eq_true, Bool.true_eq_false, if_true, if_false, ite_true, ite_false, reduceIte])
local macro_rules | `(tactic| walk_at "leaf") => `(tactic| (intro Q q; first | exact q | exact ⟨by omega, q⟩ | exact ⟨⟨by omega, by omega⟩, q⟩ | exact ⟨.inl ⟨by omega, by omega⟩, q⟩ | exact ⟨.inr ⟨by omega, by omega⟩, q⟩ | (rw [ixD_l (atI_ints (by first | omega | grind) (by first | omega | grind))]; exact q) | (rw [inD_lst rfl (all_ints _), inL_ints]; exact q) | (rw [lenD_l, List.length_map]; exact q) | (rw [lenD_r, List.length_map]; exact q)))
local macro_rules | `(tactic| walk_at "ev") => `(tactic| repeat' (first | exact eve_var rfl | exact eve_c | exact eva_nil | apply evt_and | apply evt_or | apply evt_not | apply evt_B | apply eva_cons | apply eve_and | apply eve_or | apply eve_not | apply eve_chain | apply eve_op | apply eve_un | apply eve_cb | (refine Gd.mk (fun _ => ?_)) | (refine Gn.mk (fun _ => ?_)) | walk_at "leaf"))
local macro_rules | `(tactic| walk_at "bl") => `(tactic| simp only [Bool.false_bne, Bool.true_bne, Bool.and_eq_true, Bool.or_eq_true, Bool.and_eq_false_iff, Bool.or_eq_false_iff, Bool.not_eq_true', Bool.not_eq_false', Bool.not_not, decide_eq_true_eq, decide_eq_false_iff_not] at *)
/-! ### texts of letters -/
def letC (i : Int) : Nat := abc.cps.toList.getD (i % 26).toNat 0
def textM (ms : List Int) : Str := ⟨(ms.map letC).toArray⟩
theorem textM_len (ms : List Int) : (textM ms).length = ms.length := by show (ms.map letC).toArray.size = _; simp
theorem join_text (ms : List Int) : Txt.join "" (ms.map fun i => (⟨#[letC i]⟩ : Str)) = textM ms := by
  have h := join_cps (ms.map fun i => (⟨#[letC i]⟩ : Str))
  have e : ((ms.map fun i => (⟨#[letC i]⟩ : Str)).map fun y => y.cps.toList).flatten = ms.map letC := by
    induction ms with
    | nil => rfl
    | cons m r ih =>
      rw [List.map_cons, List.map_cons, List.flatten_cons, ih (join_cps _)]
      rfl
  rw [e] at h
  have h2 : ∀ a b : Str, a.cps.toList = b.cps.toList → a = b := fun a b h => by
    cases a; cases b; congr 1; exact Array.toList_inj.mp h
  apply h2
  rw [h]
  show _ = (ms.map letC).toArray.toList
  rw [List.toList_toArray]
theorem ix_let {i : Int} {w : Wd} {Q : DKt} : ixD (.str abc) (.int (i % 26)) w Q = Q (.str ⟨#[letC i]⟩) w := by
  have h0 : 0 ≤ i % 26 := Int.emod_nonneg _ (by decide)
  have h1 : i % 26 < 26 := Int.emod_lt_of_pos _ (by decide)
  refine ixD_s (by show 26 ≤ sizeLine; exact small (by decide)) (atI_of h0 ?_)
  have hl : (i % 26).toNat < abc.cps.toList.length := by show _ < 26; omega
  unfold letC
  rw [List.getElem?_eq_getElem hl, List.getD_eq_getElem?_getD, List.getElem?_eq_getElem hl]; rfl
theorem ix_str {sg : Str} {c : Int} (h0 : 0 < sg.length) (h1 : sg.length ≤ 100000) : ∃ ch, ∀ w (Q : DKt), ixD (.str sg) (.int (c % (sg.length : Nat))) w Q = Q (.str ⟨#[ch]⟩) w := by
  have a0 : 0 ≤ c % (sg.length : Nat) := Int.emod_nonneg _ (by omega)
  have a1 : c % (sg.length : Nat) < sg.length := Int.emod_lt_of_pos _ (by omega)
  have hl : (c % (sg.length : Nat)).toNat < sg.cps.toList.length := by show _ < sg.length; omega
  exact ⟨_, fun w Q => ixD_s (small h1) (atI_of a0 (List.getElem?_eq_getElem hl))⟩
theorem cutD_ints (ms : List Int) (lo hi : Option Int) : cutD (ms.map D.int) lo hi = ((ms.drop (HT.sIx ms.length 0 lo)).take (HT.sIx ms.length ms.length hi - HT.sIx ms.length 0 lo)).map D.int := by
  unfold cutD
  rw [List.length_map, List.map_take, List.map_drop]

theorem set_at {S : DSt} {j : Nat} {o : Option D} (h : j < S.length) : ((wipeD S (Tgt.one j).vs).set j o)[j]? = some o := by
  show ((S.set j none).set j o)[j]? = some o
  rw [List.set_set, List.getElem?_set_self h]
theorem lc_text {tl : DE} {S : DSt} {w : Wd} {Q : DKt} {ms : List Int} {j : Nat} (hj : j < S.length) (ha : ∀ R : D → Wd → Prop, R (.lst (ms.map D.int)) w → tl S w R) (hl : ms.length ≤ 1000) (hq : Q (.str (textM ms)) w) :
    dLc (diL tl) (.one j) dYes (dOp ixD (dC (.str abc)) (dOp modD (dVar j) (dC (.int 26)))) S w fun x w1 => joinD (.str "") [x] w1 Q := by
  refine dLc_lf (c := fun _ => true) (f := fun d => match d with | .int i => .str ⟨#[letC i]⟩ | _ => .non) ha (by rw [List.length_map]; omega) (fun d hd => ?_) ?_
  · obtain ⟨i, _, rfl⟩ := List.mem_map.mp hd
    refine ⟨evt_yes, fun _ Q q => ?_⟩
    simp only [dOp, dC, dVar, set_at hj, modD_ii]
    refine ⟨by decide, ?_⟩
    rw [ix_let]; exact q
  · rw [List.filter_eq_self.mpr (fun _ _ => rfl), List.map_map]
    have e : (ms.map ((fun d => match d with | .int i => D.str ⟨#[letC i]⟩ | _ => .non) ∘ D.int)) = (ms.map fun i => (⟨#[letC i]⟩ : Str)).map D.str := by rw [List.map_map]; rfl
    rw [e]
    refine joinD_l ?_ (by rw [join_text]; exact hq)
    rw [List.map_map]
    have : ∀ l : List Int, (l.map ((fun x : Str => x.length) ∘ fun i => (⟨#[letC i]⟩ : Str))).sum = l.length := by
      intro l
      induction l with
      | nil => rfl
      | cons a r ih => rw [List.map_cons, List.sum_cons, ih, List.length_cons]; show 1 + _ = _; omega
    rw [this, List.length_map]
    show ms.length + ms.length * 0 ≤ _
    omega

theorem abc_at : ∀ k : Nat, k < 26 → abc.cps.toList[k]? = some (97 + k) := by decide +kernel
theorem abc_len : abc.length = 26 := by decide +kernel
theorem abc_ix : ∀ k : Nat, k < 26 → (Builtin.Str.occurrences abc ⟨#[97 + k]⟩ 0 abc.length 1).head? = some k := by decide +kernel
theorem abc_list : abc.cps.toList = (List.range 26).map (97 + ·) := by decide +kernel
theorem isLet_iff {c : Nat} : isLet c = true ↔ 97 ≤ c ∧ c ≤ 122 := by
  unfold isLet
  rw [decide_eq_true_eq, abc_list, List.mem_map]
  constructor
  · rintro ⟨k, hk, rfl⟩
    have := List.mem_range.mp hk; omega
  · intro h
    exact ⟨c - 97, List.mem_range.mpr (by omega), by omega⟩
theorem letC_let (i : Int) : isLet (letC i) = true := by
  have h0 : 0 ≤ i % 26 := Int.emod_nonneg _ (by decide)
  have h1 : i % 26 < 26 := Int.emod_lt_of_pos _ (by decide)
  unfold letC
  rw [List.getD_eq_getElem?_getD, abc_at _ (by omega)]
  exact isLet_iff.mpr (by simp; omega)
def sp_letter_of : DSp := fun ds w Q _ => ∃ s : Int, ds = [.int s] ∧ 41 ≤ s ∧ s ≤ 66 ∧ Q (.str ⟨#[(s + 56).toNat]⟩) w
def sp_sign_of : DSp := fun ds w Q _ => ∃ c : Nat, ds = [.str ⟨#[c]⟩] ∧ isLet c = true ∧ Q (.int ((c : Int) - 56)) w
def t_letter_of (E : DX) : DS :=
  let W' : DWX := fun c d _ w => E c d w
  (dRet (dOp ixD (dC (.str "abcdefghijklmnopqrstuvwxyz")) (dOp subD (dOp subD (dVar 0) (dC (.int 40))) (dC (.int 1)))))
def t_sign_of (E : DX) : DS :=
  let W' : DWX := fun c d _ w => E c d w
  (dRet (dOp addD (dOp addD (dC (.int 40)) (dC (.int 1))) (dBM "str" sindexD (dC (.str "abcdefghijklmnopqrstuvwxyz")) (dCons (dVar 0) dNil))))
theorem ix_abc {w : Wd} {Q : DKt} {i : Int} (h0 : 0 ≤ i) (h1 : i < 26) : ixD (.str abc) (.int i) w Q = Q (.str ⟨#[97 + i.toNat]⟩) w :=
  ixD_s (by rw [abc_len]; exact small (by decide)) (atI_of h0 (abc_at _ (by omega)))
theorem red_letter_of : ∀ ds w Q E, sp_letter_of ds w Q E → t_letter_of E { nx := fun _ w1 => Q .non w1, rt := Q } (startD ["sign"] ds) w := by
  rintro ds w Q E ⟨s, rfl, h0, h1, q⟩
  unfold t_letter_of
  walk_at "td"
  rw [ix_abc (by omega) (by omega)]
  have e : 97 + (s - 40 - 1).toNat = (s + 56).toNat := by omega
  rw [e]; exact q
theorem sindex_abc {c : Nat} {w : Wd} {Q : DKt} (h : isLet c = true) (q : Q (.int ((c : Int) - 97)) w) : sindexD (.str abc) [.str ⟨#[c]⟩] w Q := by
  obtain ⟨h1, h2⟩ := isLet_iff.mp h
  obtain ⟨k, hk, rfl⟩ : ∃ k, k < 26 ∧ c = 97 + k := ⟨c - 97, by omega, by omega⟩
  have hx := abc_ix k hk
  cases e : Builtin.Str.occurrences abc ⟨#[97 + k]⟩ 0 abc.length 1 with
  | nil => rw [e] at hx; cases hx
  | cons i rest =>
    rw [e] at hx
    cases hx
    refine ⟨_, rest, e, ?_⟩
    have : ((97 + k : Nat) : Int) - 97 = k := by omega
    rw [this] at q; exact q
theorem red_sign_of : ∀ ds w Q E, sp_sign_of ds w Q E → t_sign_of E { nx := fun _ w1 => Q .non w1, rt := Q } (startD ["letter"] ds) w := by
  rintro ds w Q E ⟨c, rfl, hc, q⟩
  unfold t_sign_of
  walk_at "td"
  refine ⟨dTy_s, sindex_abc hc ?_⟩
  walk_at "td"
  have e : 40 + 1 + ((c : Int) - 97) = c - 56 := by omega
  rw [e]; exact q
end TD

set_option maxHeartbeats 4000000
namespace TD
open PySem PySem.Spec PyProof.Rows L2
local macro_rules | `(tactic| walk_at "td") => `(tactic| simp only [dSeq, dIf, dB, dOp, dUn, dCB, dVar, dC, dRet, dRetN, dNext, dDrop, dAsg, dAnd, dOr, dNot, dAndV, dOrV, dNotV, dIfE, dChain, dCons, dNil, dTup, dLst, dLstO, dCall, dSl, dPart, dNoPart, dBM, dBM0, dAug, dAsgG, dgName, dgTup, setAll, dCont, dBreak,
  addD_ii, addD_ss, addD_tt, addD_ll, subD_ii, mulD_ii, mulD_li, fdivD_ii, modD_ii, powD_ii, negD_i, ltD_ii, leD_ii, gtD_ii, geD_ii, eqD_ii, eqD_ss, eqD_bb, eqD_nn, eqD_ni, eqD_in, isN_x, isNon_non, isNon_int, isNon_str, isNon_bl, isNon_lst, isNon_tup, isNon_ref, lenD_l, lenD_r, lenD_t, lenD_s, slD_l, slD_t, slD_s, listD_l, listD_r, listD_t, listD_lO, listD_tO, tupleD_l, tupleD_t, sumD_l, allD_l, maxD_ii, minD_ii, absD_i, atSeq_l, atSeq_r, wipeD, dTy_put, app_put, true_and, and_true, dFrz, put_same, Option.bind_some, frzD_lst,
  startD, List.map_cons, List.map_nil, List.cons_append, List.nil_append, List.length_cons, List.length_nil, List.getElem?_cons_zero, List.getElem?_cons_succ, List.set_cons_zero, List.set_cons_succ, List.replicate_succ, List.replicate_zero, List.append_nil, Nat.reduceAdd, Nat.reduceSub, Int.reduceToNat, decide_eq_true_eq, Bool.false_bne, Bool.true_bne, Bool.not_eq_true', Bool.not_eq_true, decide_eq_false_iff_not, Bool.false_eq_true, Bool.true_eq_false, if_true, if_false, ite_true, ite_false, reduceIte])
local macro_rules | `(tactic| walk_at "leaf") => `(tactic| (intro Q q; first | exact q | exact ⟨by omega, q⟩ | exact ⟨⟨by omega, by omega⟩, q⟩ | exact ⟨.inl ⟨by omega, by omega⟩, q⟩ | exact ⟨.inr ⟨by omega, by omega⟩, q⟩ | (rw [ixD_l (atI_ints (by first | omega | grind) (by first | omega | grind))]; exact q) | (rw [inD_lst rfl (all_ints _), inL_ints]; exact q) | (rw [lenD_l, List.length_map]; exact q) | (rw [lenD_r, List.length_map]; exact q)))
local macro_rules | `(tactic| walk_at "ev") => `(tactic| repeat' (first | exact eve_var rfl | exact eve_c | exact eva_nil | apply evt_and | apply evt_or | apply evt_not | apply evt_B | apply eva_cons | apply eve_and | apply eve_or | apply eve_not | apply eve_chain | apply eve_op | apply eve_un | apply eve_cb | (refine Gd.mk (fun _ => ?_)) | (refine Gn.mk (fun _ => ?_)) | walk_at "leaf"))
local macro_rules | `(tactic| walk_at "bl") => `(tactic| simp only [Bool.false_bne, Bool.true_bne, Bool.and_eq_true, Bool.or_eq_true, Bool.and_eq_false_iff, Bool.or_eq_false_iff, Bool.not_eq_true', Bool.not_eq_false', Bool.not_not, decide_eq_true_eq, decide_eq_false_iff_not] at *)
/-! ### signs -/
def isSign (n : Int) : Bool := decide (1 ≤ n) && decide (n ≤ 94)
def kindM (n : Int) : Str := if n ≤ 40 then "page" else if n < 67 then "letter" else if n = 67 then "end" else if n = 68 then "strike" else "spare"
def sp_is_sign : DSp := fun ds w Q _ => ∃ n : Int, ds = [.int n] ∧ Q (.bl (isSign n)) w
def sp_check_signs (K : PySem.W.Frag) : DSp := fun ds w Q E => ∃ (d : D) (ns : List Int), ds = [d] ∧ d = iL ns ∧ if (ns.all isSign) = true then Q .non w else E (cls K "BadSign") none w
def sp_kind_of (K : PySem.W.Frag) : DSp := fun ds w Q E => ∃ n : Int, ds = [.int n] ∧ if isSign n = true then Q (.str (kindM n)) w else E (cls K "BadSign") none w
def t_is_sign (E : DX) : DS :=
  let W' : DWX := fun c d _ w => E c d w
  (dRet (dChain leD leD (dC (.int 1)) (dVar 0) (dC (.int 94))))
def t_check_signs (K : PySem.W.Frag) (E : DX) : DS :=
  let W' : DWX := fun c d _ w => E c d w
  (dFor (diL (dVar 0)) (dgName 1) (dIf (dNot (dB (dCall sp_is_sign W' (dCons (dVar 1) dNil)))) (dRaise (cls K "BadSign") W') dNext))
def t_kind_of (K : PySem.W.Frag) (E : DX) : DS :=
  let W' : DWX := fun c d _ w => E c d w
  (dSeq (dDrop (dCall ((sp_check_signs K)) W' (dCons (dLst (dCons (dVar 0) dNil)) dNil))) (dSeq (dIf (dB (dOp leD (dVar 0) (dC (.int 40)))) (dRet (dC (.str "page"))) dNext) (dSeq (dIf (dB (dOp ltD (dVar 0) (dC (.int 67)))) (dRet (dC (.str "letter"))) dNext) (dSeq (dIf (dB (dOp (eqD false) (dVar 0) (dC (.int 67)))) (dRet (dC (.str "end"))) dNext) (dSeq (dIf (dB (dOp (eqD false) (dVar 0) (dC (.int 68)))) (dRet (dC (.str "strike"))) dNext) (dRet (dC (.str "spare"))))))))
theorem red_is_sign : ∀ ds w Q E, sp_is_sign ds w Q E → t_is_sign E { nx := fun _ w1 => Q .non w1, rt := Q } (startD ["number"] ds) w := by
  rintro ds w Q E ⟨n, rfl, q⟩
  unfold t_is_sign
  exact dRet_ev (ev_eq (by walk_at "ev") rfl) q
theorem red_check_signs {K : PySem.W.Frag} : ∀ ds w Q E, sp_check_signs K ds w Q E → t_check_signs K E { nx := fun _ w1 => Q .non w1, rt := Q } (startD ["signs", "sign"] ds) w := by
  rintro ds w Q E ⟨_, ns, rfl, rfl, q⟩
  unfold t_check_signs
  refine dFor_l (xs := ns.map D.int) (fun i S2 w2 => (∃ k, S2 = [some (iL ns), k]) ∧ w2 = w ∧ (ns.take i).all isSign = true) (fun R h => by exact h) ⟨⟨none, rfl⟩, rfl, rfl⟩ ?_ ?_
  · rintro i d S2 w2 hd ⟨⟨k, rfl⟩, rfl, ht⟩
    obtain ⟨x, hx, rfl⟩ : ∃ x, ns[i]? = some x ∧ d = .int x := by
      rw [List.getElem?_map] at hd
      cases e : ns[i]? with
      | none => rw [e] at hd; cases hd
      | some x => rw [e] at hd; cases hd; exact ⟨x, rfl, rfl⟩
    walk_at "td"
    refine ⟨x, rfl, ?_⟩
    cases hs : isSign x with
    | true =>
      refine ⟨⟨_, rfl⟩, rfl, ?_⟩
      rw [List.take_add_one, hx, List.all_append, ht]
      simp [hs]
    | false =>
      have : ¬ ns.all isSign = true := fun z => by
        have := List.all_eq_true.mp z x (List.mem_of_getElem? hx)
        rw [hs] at this; cases this
      rw [if_neg this] at q
      exact q
  · rintro S2 w2 ⟨⟨k, rfl⟩, rfl, ht⟩
    rw [List.length_map, List.take_length] at ht
    rw [if_pos ht] at q
    exact q
theorem red_kind_of {K : PySem.W.Frag} : ∀ ds w Q E, sp_kind_of K ds w Q E → t_kind_of K E { nx := fun _ w1 => Q .non w1, rt := Q } (startD ["sign"] ds) w := by
  rintro ds w Q E ⟨n, rfl, q⟩
  unfold t_kind_of
  walk_at "td"
  refine ⟨by decide, _, [n], rfl, rfl, ?_⟩
  have e : [n].all isSign = isSign n := by simp
  rw [e]
  cases hs : isSign n with
  | false => rw [hs] at q; exact q
  | true =>
    rw [hs] at q
    simp only [if_true] at q ⊢
    unfold kindM at q
    split at q
    · rename_i h; rw [if_pos h]; exact q
    rename_i h; rw [if_neg h]
    split at q
    · rename_i h; rw [if_pos h]; exact q
    rename_i h; rw [if_neg h]
    split at q
    · rename_i h; rw [if_pos h]; exact q
    rename_i h; rw [if_neg h]
    split at q
    · rename_i h; rw [if_pos h]; exact q
    rename_i h; rw [if_neg h]
    exact q
end TD

set_option maxHeartbeats 4000000
namespace TD
open PySem PySem.Spec PyProof.Rows L2
local macro_rules | `(tactic| walk_at "td") => `(tactic| simp only [dSeq, dIf, dB, dOp, dUn, dCB, dVar, dC, dRet, dRetN, dNext, dDrop, dAsg, dAnd, dOr, dNot, dAndV, dOrV, dNotV, dIfE, dChain, dCons, dNil, dTup, dLst, dLstO, dCall, dSl, dPart, dNoPart, dBM, dBM0, dAug, dAsgG, dgName, dgTup, setAll, dCont, dBreak,
  addD_ii, addD_ss, addD_tt, addD_ll, subD_ii, mulD_ii, mulD_li, fdivD_ii, modD_ii, powD_ii, negD_i, ltD_ii, leD_ii, gtD_ii, geD_ii, eqD_ii, eqD_ss, eqD_bb, eqD_nn, eqD_ni, eqD_in, isN_x, isNon_non, isNon_int, isNon_str, isNon_bl, isNon_lst, isNon_tup, isNon_ref, lenD_l, lenD_r, lenD_t, lenD_s, slD_l, slD_t, slD_s, listD_l, listD_r, listD_t, listD_lO, listD_tO, tupleD_l, tupleD_t, sumD_l, allD_l, maxD_ii, minD_ii, absD_i, atSeq_l, atSeq_r, wipeD, dTy_put, app_put, true_and, and_true, dFrz, put_same, Option.bind_some, frzD_lst,
  startD, List.map_cons, List.map_nil, List.cons_append, List.nil_append, List.length_cons, List.length_nil, List.getElem?_cons_zero, List.getElem?_cons_succ, List.set_cons_zero, List.set_cons_succ, List.replicate_succ, List.replicate_zero, List.append_nil, Nat.reduceAdd, Nat.reduceSub, Int.reduceToNat, decide_eq_true_eq, Bool.false_bne, Bool.true_bne, Bool.not_eq_true', Bool.not_eq_true, decide_eq_false_iff_not, Bool.false_eq_true, Bool.true_eq_false, if_true, if_false, ite_true, ite_false, reduceIte])
local macro_rules | `(tactic| walk_at "leaf") => `(tactic| (intro Q q; first | exact q | exact ⟨by omega, q⟩ | exact ⟨⟨by omega, by omega⟩, q⟩ | exact ⟨.inl ⟨by omega, by omega⟩, q⟩ | exact ⟨.inr ⟨by omega, by omega⟩, q⟩ | (rw [ixD_l (atI_ints (by first | omega | grind) (by first | omega | grind))]; exact q) | (rw [inD_lst rfl (all_ints _), inL_ints]; exact q) | (rw [lenD_l, List.length_map]; exact q) | (rw [lenD_r, List.length_map]; exact q)))
local macro_rules | `(tactic| walk_at "ev") => `(tactic| repeat' (first | exact eve_var rfl | exact eve_c | exact eva_nil | apply evt_and | apply evt_or | apply evt_not | apply evt_B | apply eva_cons | apply eve_and | apply eve_or | apply eve_not | apply eve_chain | apply eve_op | apply eve_un | apply eve_cb | (refine Gd.mk (fun _ => ?_)) | (refine Gn.mk (fun _ => ?_)) | walk_at "leaf"))
local macro_rules | `(tactic| walk_at "bl") => `(tactic| simp only [Bool.false_bne, Bool.true_bne, Bool.and_eq_true, Bool.or_eq_true, Bool.and_eq_false_iff, Bool.or_eq_false_iff, Bool.not_eq_true', Bool.not_eq_false', Bool.not_not, decide_eq_true_eq, decide_eq_false_iff_not] at *)
/-! ### signs that stand -/
abbrev s2 (x : Int × Nat) : D := .tup [.int x.1, .int x.2]
def standF : Nat → List (Int × Nat) → List Int → Sum Nat (List (Int × Nat))
  | _, kept, [] => .inr kept
  | i, kept, x :: r => if x = 68 then (if kept = [] then .inl i else standF (i + 1) kept.dropLast r) else standF (i + 1) (kept ++ [(x, i)]) r
def standM (ns : List Int) : Sum Nat (List (Int × Nat)) := standF 0 [] ns
def sp_standing (K : PySem.W.Frag) : DSp := fun ds w Q E => ∃ ns : List Int, ds = [iL ns] ∧ ns.length ≤ 10000 ∧ match standM ns with
  | .inr kept => ∀ p, w p = none → Q (.ref p) (put w p (.lst (kept.map s2)))
  | .inl i => ∀ p n, w p = none → E (cls K "BadSigns") (some (.int i)) (put w p n)
def t_standing (K : PySem.W.Frag) (E : DX) : DS :=
  let W' : DWX := fun c d _ w => E c d w
  (dSeq (dAsg (dLstO dNil) 1) (dSeq (dFor (diE (dCons (dVar 0) dNil)) (dgTup [2, 3]) (dIf (dB (dOp (eqD true) (dVar 3) (dC (.int 68)))) (dDrop (dBM "list" appD (dVar 1) (dCons (dTup (dCons (dVar 3) (dCons (dVar 2) dNil))) dNil))) (dIf (dB (dOp (eqD false) (dCB lenD (dCons (dVar 1) dNil)) (dC (.int 0)))) (dRaiseAt (cls K "BadSigns") W' (dVar 2)) (dDrop (dBM0 "list" popD (dVar 1)))))) (dRet (dVar 1))))
theorem red_standing {K : PySem.W.Frag} : ∀ ds w Q E, sp_standing K ds w Q E → t_standing K E { nx := fun _ w1 => Q .non w1, rt := Q } (startD ["signs", "kept", "place", "sign"] ds) w := by
  rintro ds w Q E ⟨ns, rfl, hl, q⟩
  unfold t_standing
  walk_at "td"
  refine ⟨by decide, fun p hp => ?_⟩
  refine dFor_e (xs := ns.map D.int) (fun i S2 w2 => ∃ (kept : List (Int × Nat)) (k m : Option D), standF i kept (ns.drop i) = standM ns ∧ kept.length ≤ i ∧ S2 = [some (iL ns), some (.ref p), k, m] ∧ w2 = put w p (.lst (kept.map s2))) (fun R h => by exact h) ⟨[], none, none, rfl, Nat.le_refl _, rfl, rfl⟩ ?_ ?_
  · rintro i d S2 w2 hd ⟨kept, k, m, he, hk, rfl, rfl⟩
    obtain ⟨x, hx, rfl⟩ : ∃ x, ns[i]? = some x ∧ d = .int x := by
      rw [List.getElem?_map] at hd
      cases e : ns[i]? with
      | none => rw [e] at hd; cases hd
      | some x => rw [e] at hd; cases hd; exact ⟨x, rfl, rfl⟩
    obtain ⟨hi, hxe⟩ := List.getElem?_eq_some_iff.mp hx
    rw [List.drop_eq_getElem_cons hi, hxe, standF] at he
    walk_at "td"
    by_cases h0 : x = 68
    · rw [if_pos h0] at he
      simp only [h0, if_true, not_true, if_false]
      rw [lenD_w put_same]
      walk_at "td"
      rcases List.eq_nil_or_concat kept with rfl | ⟨k', y, rfl⟩
      · rw [if_pos rfl] at he
        rw [if_pos (by simp)]
        unfold dRaiseAt
        walk_at "td"
        rw [← he] at q
        exact q p _ hp
      · rw [if_neg (by simp)] at he
        rw [if_neg (by simp <;> omega)]
        have e1 : (k'.concat y).map s2 = k'.map s2 ++ [s2 y] := by simp
        rw [e1, pop_w put_same]
        refine ⟨k', _, _, by simpa using he, by simp at hk; omega, rfl, by rw [put_put]⟩
    · rw [if_neg h0] at he
      simp only [h0, if_false, not_false_iff, if_true]
      exact ⟨by decide, smallL (by rw [List.length_map]; omega), kept ++ [(x, i)], _, _, he, by simp; omega, rfl, by rw [List.map_append]; rfl⟩
  · rintro S2 w2 ⟨kept, k, m, he, hk, rfl, rfl⟩
    rw [List.length_map, List.drop_length, standF] at he
    rw [← he] at q
    walk_at "td"
    exact q p hp
end TD

set_option maxHeartbeats 4000000
namespace TD
open PySem PySem.Spec PyProof.Rows L2
local macro_rules | `(tactic| walk_at "td") => `(tactic| simp only [dSeq, dIf, dB, dOp, dUn, dCB, dVar, dC, dRet, dRetN, dNext, dDrop, dAsg, dAnd, dOr, dNot, dAndV, dOrV, dNotV, dIfE, dChain, dCons, dNil, dTup, dLst, dLstO, dCall, dSl, dPart, dNoPart, dBM, dBM0, dAug, dAsgG, dgName, dgTup, setAll, dCont, dBreak,
  addD_ii, addD_ss, addD_tt, addD_ll, subD_ii, mulD_ii, mulD_li, fdivD_ii, modD_ii, powD_ii, negD_i, ltD_ii, leD_ii, gtD_ii, geD_ii, eqD_ii, eqD_ss, eqD_bb, eqD_nn, eqD_ni, eqD_in, isN_x, isNon_non, isNon_int, isNon_str, isNon_bl, isNon_lst, isNon_tup, isNon_ref, lenD_l, lenD_r, lenD_t, lenD_s, slD_l, slD_t, slD_s, listD_l, listD_r, listD_t, listD_lO, listD_tO, tupleD_l, tupleD_t, sumD_l, allD_l, maxD_ii, minD_ii, absD_i, atSeq_l, atSeq_r, wipeD, dTy_put, app_put, true_and, and_true, dFrz, put_same, Option.bind_some, frzD_lst,
  startD, List.map_cons, List.map_nil, List.cons_append, List.nil_append, List.length_cons, List.length_nil, List.getElem?_cons_zero, List.getElem?_cons_succ, List.set_cons_zero, List.set_cons_succ, List.replicate_succ, List.replicate_zero, List.append_nil, Nat.reduceAdd, Nat.reduceSub, Int.reduceToNat, decide_eq_true_eq, Bool.false_bne, Bool.true_bne, Bool.not_eq_true', Bool.not_eq_true, decide_eq_false_iff_not, Bool.false_eq_true, Bool.true_eq_false, if_true, if_false, ite_true, ite_false, reduceIte])
local macro_rules | `(tactic| walk_at "leaf") => `(tactic| (intro Q q; first | exact q | exact ⟨by omega, q⟩ | exact ⟨⟨by omega, by omega⟩, q⟩ | exact ⟨.inl ⟨by omega, by omega⟩, q⟩ | exact ⟨.inr ⟨by omega, by omega⟩, q⟩ | (rw [ixD_l (atI_ints (by first | omega | grind) (by first | omega | grind))]; exact q) | (rw [inD_lst rfl (all_ints _), inL_ints]; exact q) | (rw [lenD_l, List.length_map]; exact q) | (rw [lenD_r, List.length_map]; exact q)))
local macro_rules | `(tactic| walk_at "ev") => `(tactic| repeat' (first | exact eve_var rfl | exact eve_c | exact eva_nil | apply evt_and | apply evt_or | apply evt_not | apply evt_B | apply eva_cons | apply eve_and | apply eve_or | apply eve_not | apply eve_chain | apply eve_op | apply eve_un | apply eve_cb | (refine Gd.mk (fun _ => ?_)) | (refine Gn.mk (fun _ => ?_)) | walk_at "leaf"))
local macro_rules | `(tactic| walk_at "bl") => `(tactic| simp only [Bool.false_bne, Bool.true_bne, Bool.and_eq_true, Bool.or_eq_true, Bool.and_eq_false_iff, Bool.or_eq_false_iff, Bool.not_eq_true', Bool.not_eq_false', Bool.not_not, decide_eq_true_eq, decide_eq_false_iff_not] at *)
/-! ### a phrasebook's content, signs of words, words of signs -/
abbrev Ent := Int × Int × Str
def plK (e : Ent) : List L2.Key × D := ([.inl e.1, .inl e.2.1], .str e.2.2)
def wdK (e : Ent) : L2.Key × D := (.inr e.2.2, .tup [.int e.1, .int e.2.1])
def atPl (bk : List Ent) (x y : Int) : Option Str := (bk.find? fun e => decide (e.1 = x) && decide (e.2.1 = y)).map (·.2.2)
def atWd (bk : List Ent) (z : Str) : Option (Int × Int) := (bk.find? fun e => decide (e.2.2 = z)).map fun e => (e.1, e.2.1)
abbrev prT (x : Int × Int) : D := .tup [.int x.1, .int x.2]
theorem val_pl (bk : List Ent) (x y : Int) : valD (bk.map plK) [.inl x, .inl y] = (atPl bk x y).map D.str := by
  induction bk with
  | nil => rfl
  | cons e r ih =>
    unfold atPl
    rw [List.map_cons, List.find?_cons]
    by_cases h : e.1 = x ∧ e.2.1 = y
    · rw [valD_pos (show (plK e).1 = _ by unfold plK; rw [h.1, h.2])]
      have : (decide (e.1 = x) && decide (e.2.1 = y)) = true := by simp [h.1, h.2]
      rw [this]; rfl
    · rw [valD_neg (show ¬ (plK e).1 = _ by unfold plK; intro z; simp at z; exact h z), ih]
      have : (decide (e.1 = x) && decide (e.2.1 = y)) = false := by
        rw [Bool.and_eq_false_iff, decide_eq_false_iff_not, decide_eq_false_iff_not]
        by_cases hx : e.1 = x
        · exact .inr fun hy => h ⟨hx, hy⟩
        · exact .inl hx
      rw [this]; rfl
theorem val_wd (bk : List Ent) (z : Str) : valD (bk.map wdK) (.inr z) = (atWd bk z).map prT := by
  induction bk with
  | nil => rfl
  | cons e r ih =>
    unfold atWd
    rw [List.map_cons, List.find?_cons]
    by_cases h : e.2.2 = z
    · rw [valD_pos (show (wdK e).1 = _ by unfold wdK; rw [h])]
      rw [decide_eq_true h]; rfl
    · rw [valD_neg (show ¬ (wdK e).1 = _ by unfold wdK; intro q; exact h (Sum.inr.inj q)), ih]
      rw [decide_eq_false h]; rfl
theorem setK_new {κ : Type} [DecidableEq κ] {l : List (κ × D)} {k : κ} {v : D} (h : valD l k = none) : setK l k v = l ++ [(k, v)] := by
  unfold setK
  have : (l.any fun kv => decide (kv.1 = k)) = false := by
    rw [List.any_eq_false]
    intro x hx
    unfold valD at h
    rw [Option.map_eq_none_iff, List.find?_eq_none] at h
    exact h x hx
  rw [this]; rfl
def BookAt (K : PySem.W.Frag) (w : Wd) (p : Addr) (bk : List Ent) : Prop := ∃ a b, w p = some (.ins (bkC K) (bkF a b)) ∧ w a = some (.dT (bk.map plK)) ∧ w b = some (.dK (bk.map wdK))
theorem BookAt.grow {K : PySem.W.Frag} {w w1 : Wd} {p : Addr} {bk : List Ent} (h : BookAt K w p bk) (g : Grow w w1) : BookAt K w1 p bk := by
  obtain ⟨a, b, h1, h2, h3⟩ := h
  exact ⟨a, b, g _ _ h1, g _ _ h2, g _ _ h3⟩
def placeB (x y : Int) : Bool := (decide (1 ≤ x) && decide (x ≤ 40)) && (decide (1 ≤ y) && decide (y ≤ 40))
def sp_check_place (K : PySem.W.Frag) : DSp := fun ds w Q E => ∃ x y : Int, ds = [.int x, .int y] ∧ if placeB x y = true then Q .non w else E (cls K "BadPlace") none w
def sp_Phrasebook_enter (K : PySem.W.Frag) : DSp := fun ds w Q E => ∃ (p a b : Addr) (x y : Int) (z : Str) (bk : List Ent), ds = [.ref p, .int x, .int y, .str z] ∧ z.length ≤ 100000 ∧ bk.length < 1000 ∧ w p = some (.ins (bkC K) (bkF a b)) ∧ w a = some (.dT (bk.map plK)) ∧ w b = some (.dK (bk.map wdK)) ∧
  if placeB x y = true then (if wordB z = true then (if (atPl bk x y).isSome = true then E (cls K "Taken") none w else if (atWd bk z).isSome = true then E (cls K "Known") none w else Q .non (put (put w a (.dT ((bk ++ [(x, y, z)]).map plK))) b (.dK ((bk ++ [(x, y, z)]).map wdK)))) else E (cls K "BadWord") none w) else E (cls K "BadPlace") none w
def sp_Phrasebook_word_at (K : PySem.W.Frag) : DSp := fun ds w Q E => ∃ (p : Addr) (x y : Int) (bk : List Ent), ds = [.ref p, .int x, .int y] ∧ BookAt K w p bk ∧ if placeB x y = true then Q (((atPl bk x y).map D.str).getD .non) w else E (cls K "BadPlace") none w
def signM (bk : List Ent) (z : Str) : List Int := match atWd bk z with
  | some (x, y) => [x, y]
  | none => z.cps.toList.map (fun c : Nat => (c : Int) - 56) ++ [67]
def signsM (bk : List Ent) (zs : List Str) : List Int := (zs.map (signM bk)).flatten
def endM (kept : List (Int × Nat)) (i : Nat) (many : Int) : Int := match kept[i]? with
  | some e => e.2
  | none => many
def sp_end_place : DSp := fun ds w Q _ => ∃ (kept : List (Int × Nat)) (i : Nat) (many : Int), ds = [.lst (kept.map s2), .int i, .int many] ∧ Q (.int (endM kept i many)) w
def isL (s : Int) : Bool := decide (41 ≤ s) && decide (s ≤ 66)
def spellM : Nat → List (Int × Nat) → List Nat
  | 0, _ => []
  | _ + 1, [] => []
  | n + 1, (s, _) :: r => if isL s = true then (s + 56).toNat :: spellM n r else []
def sp_spelled (K : PySem.W.Frag) : DSp := fun ds w Q E => ∃ (kept : List (Int × Nat)) (i : Nat) (many : Int), ds = [.lst (kept.map s2), .int i, .int many] ∧ i ≤ kept.length ∧ kept.length ≤ 10000 ∧ (∀ e ∈ kept, isSign e.1 = true) ∧
  match kept[i + (spellM 12 (kept.drop i)).length]? with
  | some (t, q) => if t = 67 then Q (.tup [.str ⟨(spellM 12 (kept.drop i)).toArray⟩, .int ((i + (spellM 12 (kept.drop i)).length + 1 : Nat) : Int)]) w else E (cls K "BadSigns") (some (.int q)) w
  | none => E (cls K "BadSigns") (some (.int many)) w
def consR (z : Str) : Sum Int (List Str) → Sum Int (List Str)
  | .inl e => .inl e
  | .inr l => .inr (z :: l)
def parseM (bk : List Ent) (many : Int) : Nat → List (Int × Nat) → Sum Int (List Str)
  | _, [] => .inr []
  | 0, _ => .inr []
  | n + 1, (s, p) :: r => if isL s = true then (match ((s, p) :: r).drop (spellM 12 ((s, p) :: r)).length with
      | (t, q) :: r' => if t = 67 then consR ⟨(spellM 12 ((s, p) :: r)).toArray⟩ (parseM bk many n r') else .inl q
      | [] => .inl many)
    else if s ≤ 40 then (match r with
      | (t, q) :: r' => if t ≤ 40 then (match atPl bk s t with
        | some z => consR z (parseM bk many n r')
        | none => .inl q) else .inl q
      | [] => .inl many)
    else .inl p
def t_check_place (K : PySem.W.Frag) (E : DX) : DS :=
  let W' : DWX := fun c d _ w => E c d w
  (dIf (dOr (dNot (dB (dChain leD leD (dC (.int 1)) (dVar 0) (dC (.int 40))))) (dNot (dB (dChain leD leD (dC (.int 1)) (dVar 1) (dC (.int 40)))))) (dRaise (cls K "BadPlace") W') dNext)
def t_Phrasebook_enter (K : PySem.W.Frag) (E : DX) : DS :=
  let W' : DWX := fun c d _ w => E c d w
  (dSeq (dDrop (dCall ((sp_check_place K)) W' (dCons (dVar 1) (dCons (dVar 2) dNil)))) (dSeq (dDrop (dCall ((sp_check_word K)) W' (dCons (dVar 3) dNil))) (dSeq (dIf (dB (dOp (inD false) (dTup (dCons (dVar 1) (dCons (dVar 2) dNil))) (dFld (He.ga K "Phrasebook") "by_place" (dVar 0)))) (dRaise (cls K "Taken") W') dNext) (dSeq (dIf (dB (dOp (inD false) (dVar 3) (dFld (He.ga K "Phrasebook") "by_word" (dVar 0)))) (dRaise (cls K "Known") W') dNext) (dSeq (dSetK (dVar 3) (dFld (He.ga K "Phrasebook") "by_place" (dVar 0)) (dTup (dCons (dVar 1) (dCons (dVar 2) dNil)))) (dSetK (dTup (dCons (dVar 1) (dCons (dVar 2) dNil))) (dFld (He.ga K "Phrasebook") "by_word" (dVar 0)) (dVar 3)))))))
def t_Phrasebook_word_at (K : PySem.W.Frag) (E : DX) : DS :=
  let W' : DWX := fun c d _ w => E c d w
  (dSeq (dDrop (dCall ((sp_check_place K)) W' (dCons (dVar 1) (dCons (dVar 2) dNil)))) (dRet (dGet1 (dFld (He.ga K "Phrasebook") "by_place" (dVar 0)) (dTup (dCons (dVar 1) (dCons (dVar 2) dNil))))))
def t_end_place (E : DX) : DS :=
  let W' : DWX := fun c d _ w => E c d w
  (dSeq (dIf (dB (dOp ltD (dVar 1) (dCB lenD (dCons (dVar 0) dNil)))) (dRet (dOp ixD (dOp ixD (dVar 0) (dVar 1)) (dC (.int 1)))) dNext) (dRet (dVar 2)))
def t_spelled (K : PySem.W.Frag) (E : DX) : DS :=
  let W' : DWX := fun c d _ w => E c d w
  (dSeq (dAsg (dC (.str "")) 3) (dSeq (dWhile (dAnd (dB (dOp ltD (dVar 1) (dCB lenD (dCons (dVar 0) dNil)))) (dAnd (dB (dOp (eqD false) (dCall ((sp_kind_of K)) W' (dCons (dOp ixD (dOp ixD (dVar 0) (dVar 1)) (dC (.int 0))) dNil)) (dC (.str "letter")))) (dB (dOp ltD (dCB lenD (dCons (dVar 3) dNil)) (dC (.int 12)))))) (dSeq (dAsg (dOp addD (dVar 3) (dCall sp_letter_of W' (dCons (dOp ixD (dOp ixD (dVar 0) (dVar 1)) (dC (.int 0))) dNil))) 3) (dAug 1 (dC (.int 1)) fun x y => x + y))) (dSeq (dIf (dOr (dB (dOp (eqD false) (dVar 1) (dCB lenD (dCons (dVar 0) dNil)))) (dB (dOp (eqD true) (dOp ixD (dOp ixD (dVar 0) (dVar 1)) (dC (.int 0))) (dC (.int 67))))) (dRaiseAt (cls K "BadSigns") W' (dCall sp_end_place W' (dCons (dVar 0) (dCons (dVar 1) (dCons (dVar 2) dNil))))) dNext) (dRet (dTup (dCons (dVar 3) (dCons (dOp addD (dVar 1) (dC (.int 1))) dNil)))))))
theorem red_check_place {K : PySem.W.Frag} : ∀ ds w Q E, sp_check_place K ds w Q E → t_check_place K E { nx := fun _ w1 => Q .non w1, rt := Q } (startD ["page", "line"] ds) w := by
  rintro ds w Q E ⟨x, y, rfl, q⟩
  unfold t_check_place
  refine dIf_ev (by walk_at "ev") (fun h => ?_) (fun h => ?_)
  · have e : placeB x y = false := by
      unfold placeB
      generalize (decide (1 ≤ x) && decide (x ≤ 40)) = a at h ⊢
      generalize (decide (1 ≤ y) && decide (y ≤ 40)) = b at h ⊢
      cases a <;> cases b <;> first | rfl | (simp at h)
    rw [e] at q; exact q
  · have e : placeB x y = true := by
      unfold placeB
      generalize (decide (1 ≤ x) && decide (x ≤ 40)) = a at h ⊢
      generalize (decide (1 ≤ y) && decide (y ≤ 40)) = b at h ⊢
      cases a <;> cases b <;> first | rfl | (simp at h)
    rw [e] at q; exact q
theorem red_Phrasebook_enter {K : PySem.W.Frag} : ∀ ds w Q E, sp_Phrasebook_enter K ds w Q E → t_Phrasebook_enter K E { nx := fun _ w1 => Q .non w1, rt := Q } (startD ["self", "page", "line", "word"] ds) w := by
  rintro ds w Q E ⟨p, a, b, x, y, z, bk, rfl, hz, hk, hp, ha, hb, q⟩
  unfold t_Phrasebook_enter
  have ab : a ≠ b := fun z => by rw [z, hb] at ha; cases ha
  have pa : p ≠ a := fun z => by rw [z, ha] at hp; cases hp
  have pb : p ≠ b := fun z => by rw [z, hb] at hp; cases hp
  walk_at "td"
  refine ⟨x, y, rfl, ?_⟩
  split at q
  rotate_left
  · rename_i h; rw [if_neg h]; exact q
  rename_i h; rw [if_pos h]
  refine ⟨z, rfl, hz, ?_⟩
  split at q
  rotate_left
  · rename_i h; rw [if_neg h]; exact q
  rename_i h; rw [if_pos h]
  dsimp only
  refine ⟨by decide, dFld_ev (fs := bkF a b) (fun Q q => q) hp rfl _ ?_⟩
  rw [inD_kt ha (ks := [.inl x, .inl y]) rfl, val_pl, Option.isSome_map, Bool.false_bne]
  dsimp only
  split at q
  · rename_i h; rw [if_pos h]; exact q
  rename_i h; rw [if_neg h]
  refine dFld_ev (fs := bkF a b) (fun Q q => q) hp rfl _ ?_
  rw [inD_k hb (k := .inr z) rfl, val_wd, Option.isSome_map, Bool.false_bne]
  dsimp only
  split at q
  · rename_i h; rw [if_pos h]; exact q
  rename_i h2; rw [if_neg h2]
  unfold dSetK
  walk_at "td"
  refine dFld_ev (fs := bkF a b) (fun Q q => q) hp rfl _ ⟨by decide, ?_⟩
  rw [dPutAt_t ha (q := [.inl x, .inl y]) rfl]
  refine ⟨by rw [List.length_map]; omega, by decide, ?_⟩
  have hp2 : (put w a (.dT (setK (bk.map plK) [.inl x, .inl y] (.str z)))) p = some (.ins (bkC K) (bkF a b)) := by rw [put_ne pa]; exact hp
  have hb2 : (put w a (.dT (setK (bk.map plK) [.inl x, .inl y] (.str z)))) b = some (.dK (bk.map wdK)) := by rw [put_ne (Ne.symm ab)]; exact hb
  refine dFld_ev (fs := bkF a b) (fun Q q => q) hp2 rfl _ ?_
  rw [dPutAt_k hb2 (q := .inr z) rfl]
  refine ⟨by rw [List.length_map]; omega, ?_⟩
  rw [setK_new (by rw [val_pl]; cases e : atPl bk x y with | none => rfl | some _ => rw [e] at h; exact (h rfl).elim), setK_new (by rw [val_wd]; cases e : atWd bk z with | none => rfl | some _ => rw [e] at h2; exact (h2 rfl).elim)]
  rw [List.map_append, List.map_append] at q
  exact q
theorem red_Phrasebook_word_at {K : PySem.W.Frag} : ∀ ds w Q E, sp_Phrasebook_word_at K ds w Q E → t_Phrasebook_word_at K E { nx := fun _ w1 => Q .non w1, rt := Q } (startD ["self", "page", "line"] ds) w := by
  rintro ds w Q E ⟨p, x, y, bk, rfl, ⟨a, b, hp, ha, hb⟩, q⟩
  unfold t_Phrasebook_word_at
  show dSeq _ _ _ _ _
  refine ⟨x, y, rfl, ?_⟩
  split at q
  rotate_left
  · rename_i h; rw [if_neg h]; exact q
  rename_i h; rw [if_pos h]
  dsimp only
  rw [← val_pl] at q
  exact dRet_ev (d := (valD (bk.map plK) [.inl x, .inl y]).getD .non) (dGet1_evT (xs := [.int x, .int y]) (dFld_ev (eve_var rfl) hp rfl) (fun Q q => by walk_at "td"; exact ⟨by decide, q⟩) ha rfl) q

theorem ix_kept {kept : List (Int × Nat)} {i : Nat} {e : Int × Nat} {w : Wd} {Q : DKt} (h : kept[i]? = some e) : ixD (.lst (kept.map s2)) (.int (i : Int)) w Q = Q (s2 e) w :=
  ixD_l (atI_of (by omega) (by rw [Int.toNat_natCast, List.getElem?_map, h]; rfl))
theorem ix_s2a {e : Int × Nat} {w : Wd} {Q : DKt} : ixD (s2 e) (.int 0) w Q = Q (.int e.1) w := ixD_t rfl
theorem ix_s2b {e : Int × Nat} {w : Wd} {Q : DKt} : ixD (s2 e) (.int 1) w Q = Q (.int e.2) w := ixD_t rfl
theorem red_end_place : ∀ ds w Q E, sp_end_place ds w Q E → t_end_place E { nx := fun _ w1 => Q .non w1, rt := Q } (startD ["kept", "at", "many"] ds) w := by
  rintro ds w Q E ⟨kept, i, many, rfl, q⟩
  unfold t_end_place
  unfold endM at q
  walk_at "td"
  rw [List.length_map]
  cases h : kept[i]? with
  | none =>
    rw [h] at q
    have := List.getElem?_eq_none_iff.mp h
    rw [if_neg (by omega)]; exact q
  | some e =>
    rw [h] at q
    have := (List.getElem?_eq_some_iff.mp h).1
    rw [if_pos (by omega), ix_kept h, ix_s2b]; exact q
theorem kind_letter (n : Int) : decide (kindM n = "letter") = isL n := by
  have k : ¬ (("page" : Str) = "letter") ∧ ¬ (("end" : Str) = "letter") ∧ ¬ (("strike" : Str) = "letter") ∧ ¬ (("spare" : Str) = "letter") := by decide +kernel
  unfold kindM isL
  rw [Bool.eq_iff_iff, decide_eq_true_eq, Bool.and_eq_true, decide_eq_true_eq, decide_eq_true_eq]
  repeat' split
  all_goals first | (constructor <;> intro h <;> first | omega | exact (k.1 h).elim | exact (k.2.1 h).elim | exact (k.2.2.1 h).elim | exact (k.2.2.2 h).elim | rfl)
theorem kind_page (n : Int) : decide (kindM n = "page") = decide (n ≤ 40) := by
  have k : ¬ (("letter" : Str) = "page") ∧ ¬ (("end" : Str) = "page") ∧ ¬ (("strike" : Str) = "page") ∧ ¬ (("spare" : Str) = "page") := by decide +kernel
  unfold kindM
  apply decide_eq_decide.mpr
  repeat' split
  all_goals first | (constructor <;> intro h <;> first | omega | exact (k.1 h).elim | exact (k.2.1 h).elim | exact (k.2.2.1 h).elim | exact (k.2.2.2 h).elim | rfl)
theorem signs_len (bk : List Ent) : ∀ zs : List Str, zs.all wordB = true → (signsM bk zs).length ≤ 13 * zs.length
  | [], _ => Nat.le_refl _
  | z :: r, h => by
    rw [List.all_cons, Bool.and_eq_true] at h
    have ih := signs_len bk r h.2
    unfold signsM at ih ⊢
    rw [List.map_cons, List.flatten_cons, List.length_append, List.length_cons]
    have : (signM bk z).length ≤ 13 := by
      unfold signM
      split
      · simp
      · rw [List.length_append, List.length_map]
        have hw := h.1
        unfold wordB at hw
        simp only [Bool.and_eq_true, decide_eq_true_eq] at hw
        have e1 : z.cps.toList.length = z.length := Array.length_toList
        rw [e1, List.length_singleton]; omega
    omega
theorem ev_signs {S : DSt} {w : Wd} {z : Str} (h3 : S[3]? = some (some (.str z))) (h5 : 5 < S.length) (hz : wordB z = true) : EvE (dLc (diS (dVar 3)) (.one 5) dYes (dCall sp_sign_of DW0 (dCons (dVar 5) dNil))) S w (iL (z.cps.toList.map fun c : Nat => (c : Int) - 56)) := by
  intro Q q
  unfold wordB at hz
  simp only [Bool.and_eq_true, decide_eq_true_eq, List.all_eq_true] at hz
  refine dLc_sf (z := z) (c := fun _ => true) (f := fun d => match d with | .str y => .int ((y.cps.toList.getD 0 0 : Nat) - 56) | _ => .non) (fun R h => by show dVar 3 S w R; unfold dVar; rw [h3]; exact h) (by omega) (fun d hd => ?_) ?_
  · unfold chs at hd
    obtain ⟨c, hc, rfl⟩ := List.mem_map.mp hd
    refine ⟨evt_yes, fun _ Q q => ?_⟩
    simp only [dCall, dCons, dVar, dNil]
    rw [set_at h5]
    exact ⟨c, rfl, hz.2 c hc, q⟩
  · rw [List.filter_eq_self.mpr (fun _ _ => rfl)]
    unfold chs
    rw [List.map_map]
    unfold iL at q
    rw [List.map_map] at q
    exact q
def t_spelled_end (K : PySem.W.Frag) (E : DX) : DS :=
  let W' : DWX := fun c d _ w => E c d w
  (dSeq (dIf (dOr (dB (dOp (eqD false) (dVar 1) (dCB lenD (dCons (dVar 0) dNil)))) (dB (dOp (eqD true) (dOp ixD (dOp ixD (dVar 0) (dVar 1)) (dC (.int 0))) (dC (.int 67))))) (dRaiseAt (cls K "BadSigns") W' (dCall sp_end_place W' (dCons (dVar 0) (dCons (dVar 1) (dCons (dVar 2) dNil))))) dNext) (dRet (dTup (dCons (dVar 3) (dCons (dOp addD (dVar 1) (dC (.int 1))) dNil)))))
theorem spell_nil {n : Nat} : spellM n [] = [] := by cases n <;> rfl
theorem red_spelled {K : PySem.W.Frag} : ∀ ds w Q E, sp_spelled K ds w Q E → t_spelled K E { nx := fun _ w1 => Q .non w1, rt := Q } (startD ["kept", "at", "many", "word"] ds) w := by
  rintro ds w Q E ⟨kept, i, many, rfl, hi, hl, hs, q⟩
  unfold t_spelled
  show dSeq _ _ _ _ _
  refine dSeq_asg (d := .str "") eve_c ?_
  show dWhile _ _ _ _ _
  refine ⟨fun m S w2 => w2 = w ∧ ∃ (j : Nat) (pre : List Nat), S = [some (.lst (kept.map s2)), some (.int ((i + j : Nat) : Int)), some (.int many), some (.str ⟨pre.toArray⟩)] ∧ pre.length = j ∧ j ≤ 12 ∧ i + j ≤ kept.length ∧ pre ++ spellM (12 - j) (kept.drop (i + j)) = spellM 12 (kept.drop i) ∧ m = kept.length - (i + j), ⟨_, rfl, 0, [], rfl, rfl, by omega, hi, rfl, rfl⟩, ?_⟩
  rintro m S w2 ⟨rfl, j, pre, rfl, hpl, hj, hij, he, rfl⟩
  have hpz : (⟨pre.toArray⟩ : Str).length = j := by show pre.toArray.size = j; simp [hpl]
  -- the loop's end
  have fin : spellM (12 - j) (kept.drop (i + j)) = [] → t_spelled_end K E { nx := fun _ w1 => Q .non w1, rt := Q } [some (.lst (kept.map s2)), some (.int ((i + j : Nat) : Int)), some (.int many), some (.str ⟨pre.toArray⟩)] w2 := by
    intro h0
    rw [h0, List.append_nil] at he
    rw [← he, hpl] at q
    unfold t_spelled_end
    walk_at "td"
    rw [List.length_map]
    cases hk : kept[i + j]? with
    | none =>
      have := List.getElem?_eq_none_iff.mp hk
      rw [hk] at q
      rw [if_pos (by omega)]
      unfold dRaiseAt
      walk_at "td"
      refine ⟨kept, i + j, many, rfl, ?_⟩
      unfold endM
      rw [hk]; exact q
    | some e =>
      obtain ⟨t, u⟩ := e
      have := (List.getElem?_eq_some_iff.mp hk).1
      rw [hk] at q
      rw [if_neg (by omega), ix_kept hk, ix_s2a]
      walk_at "td"
      by_cases h67 : t = 67
      · dsimp only at q
        rw [if_pos h67] at q
        rw [if_neg (by omega)]
        refine ⟨by decide, ?_⟩
        have e3 : ((i + j : Nat) : Int) + 1 = ((i + j + 1 : Nat) : Int) := by omega
        rw [e3]; exact q
      · dsimp only at q
        rw [if_neg h67] at q
        rw [if_pos h67]
        unfold dRaiseAt
        walk_at "td"
        refine ⟨kept, i + j, many, rfl, ?_⟩
        unfold endM
        rw [hk]; exact q
  cases hk : kept[i + j]? with
  | none =>
    have hn := List.getElem?_eq_none_iff.mp hk
    refine (evt_and (a := false) (b := false) (evt_B fun Q q => ?_) ⟨fun z => nomatch z⟩) _ ?_
    · walk_at "td"
      rw [List.length_map, decide_eq_false (by omega)]; exact q
    · exact fin (by rw [List.drop_eq_nil_of_le (by omega), spell_nil])
  | some e =>
    obtain ⟨t, u⟩ := e
    have hn := (List.getElem?_eq_some_iff.mp hk).1
    have hd : kept.drop (i + j) = (t, u) :: kept.drop (i + j + 1) := by
      rw [List.drop_eq_getElem_cons hn]
      congr 1
      exact (List.getElem?_eq_some_iff.mp hk).2
    have hsg := hs (t, u) (List.mem_of_getElem? hk)
    refine (evt_and (a := true) (b := isL t && decide (j < 12)) (evt_B fun Q q => ?_) ⟨fun _ => evt_and (a := isL t) (b := decide (j < 12)) (evt_B fun Q q => ?_) ⟨fun _ => evt_B fun Q q => ?_⟩⟩) _ ?_
    · walk_at "td"
      rw [List.length_map, decide_eq_true (by omega)]; exact q
    · walk_at "td"
      rw [ix_kept hk, ix_s2a]
      refine ⟨t, rfl, ?_⟩
      rw [if_pos hsg]
      walk_at "td"
      rw [kind_letter]; exact q
    · walk_at "td"
      refine ⟨small (by rw [hpz]; omega), ?_⟩
      rw [hpz]
      have e1 : decide ((j : Int) < 12) = decide (j < 12) := by apply decide_eq_decide.mpr; omega
      rw [e1]; exact q
    · rw [Bool.true_and]
      cases hb : isL t && decide (j < 12) with
      | true =>
        rw [Bool.and_eq_true, decide_eq_true_eq] at hb
        rw [if_pos rfl]
        have ht := hb.1
        unfold isL at ht
        rw [Bool.and_eq_true, decide_eq_true_eq, decide_eq_true_eq] at ht
        walk_at "td"
        rw [ix_kept hk, ix_s2a]
        refine ⟨t, rfl, ht.1, ht.2, ?_⟩
        walk_at "td"
        refine ⟨small (by rw [hpz]; show _ + 1 ≤ _; omega), kept.length - (i + (j + 1)), by omega, j + 1, pre ++ [(t + 56).toNat], ?_, by rw [List.length_append, hpl]; rfl, by omega, by omega, ?_, rfl⟩
        · have ea : ((⟨pre.toArray⟩ : Str) ++ (⟨#[(t + 56).toNat]⟩ : Str)) = ⟨(pre ++ [(t + 56).toNat]).toArray⟩ := by
            show Str.mk (pre.toArray ++ #[(t + 56).toNat]) = _
            congr 1; simp
          have e1 : ((i + j : Nat) : Int) + 1 = ((i + (j + 1) : Nat) : Int) := by omega
          rw [ea, e1]
        · rw [← he, hd]
          have e12 : 12 - j = (12 - (j + 1)) + 1 := by omega
          rw [e12, spellM, if_pos hb.1, List.append_assoc]
          rfl
      | false =>
        rw [if_neg (by decide)]
        refine fin ?_
        rw [hd]
        rw [Bool.and_eq_false_iff, decide_eq_false_iff_not] at hb
        rcases Nat.lt_or_ge j 12 with h12 | h12
        · have e12 : 12 - j = (12 - (j + 1)) + 1 := by omega
          rw [e12, spellM, if_neg (by rcases hb with h | h; · rw [h]; decide
                                      · omega)]
        · have e12 : 12 - j = 0 := by omega
          rw [e12]; rfl

theorem stand_mem : ∀ (ns : List Int) (i : Nat) (kept k2 : List (Int × Nat)), standF i kept ns = .inr k2 → ∀ e ∈ k2, e ∈ kept ∨ e.1 ∈ ns
  | [], i, kept, k2, h, e, he => by
    rw [standF] at h; cases h; exact .inl he
  | x :: r, i, kept, k2, h, e, he => by
    rw [standF] at h
    split at h
    · split at h
      · cases h
      · rcases stand_mem r _ _ _ h e he with z | z
        · exact .inl (List.dropLast_subset _ z)
        · exact .inr (List.mem_cons_of_mem _ z)
    · rcases stand_mem r _ _ _ h e he with z | z
      · rcases List.mem_append.mp z with z | z
        · exact .inl z
        · simp at z; subst z; exact .inr List.mem_cons_self
      · exact .inr (List.mem_cons_of_mem _ z)
theorem stand_len : ∀ (ns : List Int) (i : Nat) (kept k2 : List (Int × Nat)), standF i kept ns = .inr k2 → k2.length ≤ kept.length + ns.length
  | [], i, kept, k2, h => by rw [standF] at h; cases h; exact Nat.le_refl _
  | x :: r, i, kept, k2, h => by
    rw [standF] at h
    split at h
    · split at h
      · cases h
      · have := stand_len r _ _ _ h
        rw [List.length_dropLast] at this
        rw [List.length_cons]; omega
    · have := stand_len r _ _ _ h
      rw [List.length_append, List.length_singleton] at this
      rw [List.length_cons]; omega
def prep (ws : List Str) : Sum Int (List Str) → Sum Int (List Str)
  | .inl e => .inl e
  | .inr l => .inr (ws ++ l)
theorem prep_cons (ws : List Str) (z : Str) (r : Sum Int (List Str)) : prep ws (consR z r) = prep (ws ++ [z]) r := by
  cases r with
  | inl e => rfl
  | inr l => simp [prep, consR]
theorem spell_len : ∀ (n : Nat) (l : List (Int × Nat)), (spellM n l).length ≤ l.length
  | 0, _ => Nat.zero_le _
  | _ + 1, [] => Nat.le_refl _
  | n + 1, (s, _) :: r => by
    rw [spellM]
    split
    · rw [List.length_cons, List.length_cons]; have := spell_len n r; omega
    · exact Nat.zero_le _
theorem parse_step (bk : List Ent) (many : Int) (n : Nat) (s : Int) (p : Nat) (r : List (Int × Nat)) : parseM bk many (n + 1) ((s, p) :: r) = if isL s = true then (match ((s, p) :: r).drop (spellM 12 ((s, p) :: r)).length with
      | (t, q) :: r' => if t = 67 then consR ⟨(spellM 12 ((s, p) :: r)).toArray⟩ (parseM bk many n r') else .inl q
      | [] => .inl many)
    else if s ≤ 40 then (match r with
      | (t, q) :: r' => if t ≤ 40 then (match atPl bk s t with
        | some z => consR z (parseM bk many n r')
        | none => .inl q) else .inl q
      | [] => .inl many)
    else .inl p := by
  first | rfl | (unfold parseM; rfl) | simp only [parseM]
theorem parse_fuel (bk : List Ent) (many : Int) : ∀ (l : List (Int × Nat)) (n m : Nat), l.length ≤ n → l.length ≤ m → parseM bk many n l = parseM bk many m l := by
  intro l
  induction hk : l.length using Nat.strongRecOn generalizing l with
  | ind k ih =>
    intro n m hn hm
    cases l with
    | nil => cases n <;> cases m <;> rfl
    | cons e r =>
      obtain ⟨s, p⟩ := e
      rw [List.length_cons] at hk
      cases n with
      | zero => omega
      | succ n =>
        cases m with
        | zero => omega
        | succ m =>
          rw [parse_step, parse_step]
          split
          · generalize hd : ((s, p) :: r).drop (spellM 12 ((s, p) :: r)).length = d
            have hl : d.length ≤ r.length + 1 := by rw [← hd, List.length_drop, List.length_cons]; omega
            cases d with
            | nil => rfl
            | cons f r' =>
              obtain ⟨t, q⟩ := f
              rw [List.length_cons] at hl
              dsimp only
              split
              · rw [ih r'.length (by omega) r' rfl n m (by omega) (by omega)]
              · rfl
          · split
            · cases r with
              | nil => rfl
              | cons f r' =>
                obtain ⟨t, q⟩ := f
                rw [List.length_cons] at hk
                dsimp only
                split
                · split
                  · rw [ih r'.length (by omega) r' rfl n m (by omega) (by omega)]
                  · rfl
                · rfl
            · rfl
end TD

set_option maxHeartbeats 4000000
namespace TD
open PySem PySem.Spec PyProof.Rows L2
local macro_rules | `(tactic| walk_at "td") => `(tactic| simp only [dSeq, dIf, dB, dOp, dUn, dCB, dVar, dC, dRet, dRetN, dNext, dDrop, dAsg, dAnd, dOr, dNot, dAndV, dOrV, dNotV, dIfE, dChain, dCons, dNil, dTup, dLst, dLstO, dCall, dSl, dPart, dNoPart, dBM, dBM0, dAug, dAsgG, dgName, dgTup, setAll, dCont, dBreak,
  addD_ii, addD_ss, addD_tt, addD_ll, subD_ii, mulD_ii, mulD_li, fdivD_ii, modD_ii, powD_ii, negD_i, ltD_ii, leD_ii, gtD_ii, geD_ii, eqD_ii, eqD_ss, eqD_bb, eqD_nn, eqD_ni, eqD_in, isN_x, isNon_non, isNon_int, isNon_str, isNon_bl, isNon_lst, isNon_tup, isNon_ref, lenD_l, lenD_r, lenD_t, lenD_s, slD_l, slD_t, slD_s, listD_l, listD_r, listD_t, listD_lO, listD_tO, tupleD_l, tupleD_t, sumD_l, allD_l, maxD_ii, minD_ii, absD_i, atSeq_l, atSeq_r, wipeD, dTy_put, app_put, true_and, and_true, dFrz, put_same, Option.bind_some, frzD_lst,
  startD, List.map_cons, List.map_nil, List.cons_append, List.nil_append, List.length_cons, List.length_nil, List.getElem?_cons_zero, List.getElem?_cons_succ, List.set_cons_zero, List.set_cons_succ, List.replicate_succ, List.replicate_zero, List.append_nil, Nat.reduceAdd, Nat.reduceSub, Int.reduceToNat, decide_eq_true_eq, Bool.false_bne, Bool.true_bne, Bool.not_eq_true', Bool.not_eq_true, decide_eq_false_iff_not, Bool.false_eq_true, Bool.true_eq_false, if_true, if_false, ite_true, ite_false, reduceIte])
local macro_rules | `(tactic| walk_at "leaf") => `(tactic| (intro Q q; first | exact q | exact ⟨by omega, q⟩ | exact ⟨⟨by omega, by omega⟩, q⟩ | exact ⟨.inl ⟨by omega, by omega⟩, q⟩ | exact ⟨.inr ⟨by omega, by omega⟩, q⟩ | (rw [ixD_l (atI_ints (by first | omega | grind) (by first | omega | grind))]; exact q) | (rw [inD_lst rfl (all_ints _), inL_ints]; exact q) | (rw [lenD_l, List.length_map]; exact q) | (rw [lenD_r, List.length_map]; exact q)))
local macro_rules | `(tactic| walk_at "ev") => `(tactic| repeat' (first | exact eve_var rfl | exact eve_c | exact eva_nil | apply evt_and | apply evt_or | apply evt_not | apply evt_B | apply eva_cons | apply eve_and | apply eve_or | apply eve_not | apply eve_chain | apply eve_op | apply eve_un | apply eve_cb | (refine Gd.mk (fun _ => ?_)) | (refine Gn.mk (fun _ => ?_)) | walk_at "leaf"))
local macro_rules | `(tactic| walk_at "bl") => `(tactic| simp only [Bool.false_bne, Bool.true_bne, Bool.and_eq_true, Bool.or_eq_true, Bool.and_eq_false_iff, Bool.or_eq_false_iff, Bool.not_eq_true', Bool.not_eq_false', Bool.not_not, decide_eq_true_eq, decide_eq_false_iff_not] at *)
/-! ### the laws' own words and books -/
structure BkOk (bk : List Ent) : Prop where
  pl : ∀ e ∈ bk, placeB e.1 e.2.1 = true
  wd : ∀ e ∈ bk, wordB e.2.2 = true
  inv : ∀ z x y, atWd bk z = some (x, y) → atPl bk x y = some z
  self : ∀ e ∈ bk, atWd bk e.2.2 = some (e.1, e.2.1)
theorem atWd_app (bk : List Ent) (e : Ent) (z : Str) : atWd (bk ++ [e]) z = (atWd bk z).or (if e.2.2 = z then some (e.1, e.2.1) else none) := by
  unfold atWd
  rw [List.find?_append]
  cases h : bk.find? fun e => decide (e.2.2 = z) with
  | some f => rfl
  | none =>
    simp only [Option.map_none, Option.none_or, List.find?_cons, List.find?_nil]
    split
    · rename_i h; rw [if_pos (of_decide_eq_true h)]; rfl
    · rename_i h; rw [if_neg (of_decide_eq_false h)]; rfl
theorem atPl_app (bk : List Ent) (e : Ent) (x y : Int) : atPl (bk ++ [e]) x y = (atPl bk x y).or (if e.1 = x ∧ e.2.1 = y then some e.2.2 else none) := by
  unfold atPl
  rw [List.find?_append]
  cases h : bk.find? fun e => decide (e.1 = x) && decide (e.2.1 = y) with
  | some f => rfl
  | none =>
    simp only [Option.map_none, Option.none_or, List.find?_cons, List.find?_nil]
    split
    · rename_i h; rw [Bool.and_eq_true, decide_eq_true_eq, decide_eq_true_eq] at h; rw [if_pos h]; rfl
    · rename_i h
      rw [if_neg (fun z => by rw [decide_eq_true z.1, decide_eq_true z.2] at h; cases h)]; rfl
theorem BkOk.nil : BkOk [] := ⟨fun _ h => (nomatch h), fun _ h => (nomatch h), fun _ _ _ h => (nomatch h), fun _ h => (nomatch h)⟩
theorem BkOk.add {bk : List Ent} {x y : Int} {z : Str} (h : BkOk bk) (hp : placeB x y = true) (hw : wordB z = true) (h1 : atPl bk x y = none) (h2 : atWd bk z = none) : BkOk (bk ++ [(x, y, z)]) := by
  refine ⟨fun e he => ?_, fun e he => ?_, fun u a b hu => ?_, fun e he => ?_⟩
  · rcases List.mem_append.mp he with q | q
    · exact h.pl e q
    · simp at q; subst q; exact hp
  · rcases List.mem_append.mp he with q | q
    · exact h.wd e q
    · simp at q; subst q; exact hw
  · rw [atWd_app] at hu
    rw [atPl_app]
    cases e1 : atWd bk u with
    | some ab =>
      rw [e1] at hu
      cases hu
      rw [h.inv u a b e1]; rfl
    | none =>
      rw [e1] at hu
      simp only [Option.none_or] at hu
      split at hu
      · rename_i e2
        cases hu
        rw [h1, ← e2]
        simp
      · cases hu
  · rw [atWd_app]
    rcases List.mem_append.mp he with q | q
    · rw [h.self e q]; rfl
    · simp at q; subst q
      rw [h2]; simp
def sp__law_word : DSp := fun ds w Q _ => ∃ c : Int, ds = [.int c] ∧ ∀ z : Str, wordB z = true → Q (.str z) w
def sp__law_book (K : PySem.W.Frag) : DSp := fun ds w Q _ => ∃ ns : List Int, ds = [.rol (ns.map D.int), .int 0] ∧ ∀ p d bk w1, Grow w w1 → BookAt K w1 p bk → w1 d = some (.dK (bk.map wdK)) → BkOk bk → bk.length ≤ 9 → Q (.tup [.ref p, .ref d]) w1
def sp__law_some_words : DSp := fun ds w Q _ => ∃ (d : Addr) (bk : List Ent) (c most : Int), ds = [.ref d, .int c, .int most] ∧ w d = some (.dK (bk.map wdK)) ∧ bk.length ≤ 50 ∧ (∀ e ∈ bk, wordB e.2.2 = true) ∧ 0 ≤ most ∧ most ≤ 40 ∧ ∀ zs : List Str, zs.all wordB = true → zs.length ≤ 41 → Q (.lst (zs.map D.str)) w
def t__law_word (E : DX) : DS :=
  let W' : DWX := fun c d _ w => E c d w
  (dSeq (dAsg (dCall sp__law_row W' (dCons (dVar 0) (dCons (dC (.int 13)) (dCons (dC (.int 9360)) dNil)))) 1) (dSeq (dAsg (dBM "str" joinD (dC (.str "")) (dCons (dLc (diL (dSl slD (dVar 1) (dPart (dC (.int 1))) dNoPart)) (.one 4) dYes (dOp ixD (dC (.str "abcdefghijklmnopqrstuvwxyz")) (dOp modD (dVar 4) (dC (.int 26))))) dNil)) 2) (dSeq (dAsg (dOp addD (dC (.int 1)) (dOp modD (dOp ixD (dVar 1) (dC (.int 0))) (dC (.int 12)))) 3) (dSeq (dIf (dB (dOp (eqD false) (dOp modD (dOp fdivD (dOp ixD (dVar 1) (dC (.int 0))) (dC (.int 12))) (dC (.int 5))) (dC (.int 0)))) (dRet (dOp ixD (dTup (dCons (dC (.str "tide")) (dCons (dC (.str "tides")) (dCons (dC (.str "out")) (dCons (dC (.str "aaaaaaaaaaaa")) (dCons (dC (.str "a")) (dCons (dC (.str "b")) (dCons (dC (.str "zaaaaaaaaaaa")) dNil)))))))) (dOp modD (dOp ixD (dVar 1) (dC (.int 1))) (dC (.int 7))))) dNext) (dRet (dSl slD (dVar 2) dNoPart (dPart (dVar 3))))))))
def t__law_book (K : PySem.W.Frag) (E : DX) : DS :=
  let W' : DWX := fun c d _ w => E c d w
  (dSeq (dAsg (dMake (He.ga K "Phrasebook") (sp_Phrasebook_init K) W' dNil) 2) (dSeq (dAsg dNewK 3) (dSeq (dFor (diR1 (dCons (dOp addD (dC (.int 1)) (dOp modD (dCall sp__law_cell W' (dCons (dVar 0) (dCons (dVar 1) dNil))) (dC (.int 9)))) dNil)) (dgName 4) (dSeq (dAsg (dCall sp__law_row W' (dCons (dOp addD (dCall sp__law_cell W' (dCons (dVar 0) (dCons (dOp addD (dVar 1) (dC (.int 1))) dNil))) (dOp mulD (dC (.int 104729)) (dVar 4))) (dCons (dC (.int 3)) (dCons (dC (.int 9240)) dNil)))) 5) (dSeq (dAsg (dCall sp__law_word W' (dCons (dOp ixD (dVar 5) (dC (.int 0))) dNil)) 6) (dSeq (dAsg (dTup (dCons (dOp addD (dC (.int 1)) (dOp modD (dOp ixD (dVar 5) (dC (.int 1))) (dC (.int 3)))) (dCons (dOp addD (dC (.int 1)) (dOp modD (dOp ixD (dVar 5) (dC (.int 2))) (dC (.int 40)))) dNil))) 7) (dCut (dIf (dB (dOp (eqD false) (dOp modD (dOp fdivD (dOp ixD (dVar 5) (dC (.int 1))) (dC (.int 3))) (dC (.int 4))) (dC (.int 0)))) (dAsg (dTup (dCons (dOp addD (dC (.int 1)) (dOp modD (dOp fdivD (dOp ixD (dVar 5) (dC (.int 1))) (dC (.int 12))) (dC (.int 40)))) (dCons (dOp addD (dC (.int 1)) (dOp modD (dOp fdivD (dOp ixD (dVar 5) (dC (.int 2))) (dC (.int 40))) (dC (.int 40)))) dNil))) 7) dNext) (dIf (dAnd (dB (dOp (inD true) (dVar 6) (dVar 3))) (dB (dOp (inP true) (dVar 7) (dLockE (dLc (diK (dVar 3)) (.one 8) dYes (dOp ixD (dVar 3) (dVar 8))))))) (dSeq (dSetK (dVar 7) (dVar 3) (dVar 6)) (dDrop (dMeth (He.ga K "Phrasebook") "enter" (sp_Phrasebook_enter K) W' (dVar 2) (dCons (dOp ixD (dVar 7) (dC (.int 0))) (dCons (dOp ixD (dVar 7) (dC (.int 1))) (dCons (dVar 6) dNil)))))) dNext)))))) (dRet (dTup (dCons (dVar 2) (dCons (dVar 3) dNil)))))))
def t__law_some_words (E : DX) : DS :=
  let W' : DWX := fun c d _ w => E c d w
  (dSeq (dAsg (dCall sp__law_row W' (dCons (dVar 1) (dCons (dC (.int 41)) (dCons (dC (.int 9240)) dNil)))) 3) (dSeq (dAsg (dCB sortK (dCons (dVar 0) dNil)) 4) (dSeq (dAsg (dLstO dNil) 5) (dSeq (dFor (diL (dSl slD (dVar 3) (dPart (dC (.int 1))) (dPart (dOp addD (dC (.int 1)) (dOp modD (dOp ixD (dVar 3) (dC (.int 0))) (dOp addD (dVar 2) (dC (.int 1)))))))) (dgName 6) (dSeq (dAsg (dCall sp__law_word W' (dCons (dOp addD (dOp mulD (dVar 6) (dC (.int 17))) (dOp ixD (dVar 3) (dC (.int 0)))) dNil)) 7) (dCut (dIf (dAnd (dB (dOp gtD (dOp modD (dVar 6) (dC (.int 3))) (dC (.int 0)))) (dB (dOp gtD (dCB lenD (dCons (dVar 4) dNil)) (dC (.int 0))))) (dAsg (dOp ixD (dVar 4) (dOp modD (dOp fdivD (dVar 6) (dC (.int 3))) (dCB lenD (dCons (dVar 4) dNil)))) 7) dNext) (dDrop (dBM "list" appD (dVar 5) (dCons (dVar 7) dNil)))))) (dFrz 5 (dRet (dVar 5)))))))
theorem word_len {z : Str} (h : wordB z = true) : 1 ≤ z.length ∧ z.length ≤ 12 ∧ ∀ c ∈ z.cps.toList, isLet c = true := by
  unfold wordB at h
  simp only [Bool.and_eq_true, decide_eq_true_eq, List.all_eq_true] at h
  exact ⟨h.1.1, h.1.2, h.2⟩
theorem cut_word {ms : List Int} {k : Nat} (hl : ms.length = 12) (h1 : 1 ≤ k) (h2 : k ≤ 12) : wordB (cutS (textM ms) none (some (k : Int))) = true := by
  have e : (cutS (textM ms) none (some (k : Int))).cps.toList = (ms.map letC).take k := by
    rw [cutS_cps, HT.sIx_none, HT.sIx_nat, textM_len, hl, Nat.min_eq_left h2]
    show ((ms.map letC).toArray.toList.drop 0).take (k - 0) = _
    simp
  have el : (cutS (textM ms) none (some (k : Int))).length = k := by
    have : (cutS (textM ms) none (some (k : Int))).length = (cutS (textM ms) none (some (k : Int))).cps.toList.length := Array.length_toList.symm
    rw [this, e, List.length_take, List.length_map, hl]; omega
  unfold wordB
  rw [el, e]
  simp only [Bool.and_eq_true, decide_eq_true_eq, List.all_eq_true]
  refine ⟨⟨h1, h2⟩, fun c hc => ?_⟩
  obtain ⟨i, _, rfl⟩ := List.mem_map.mp (List.mem_of_mem_take hc)
  exact letC_let i
theorem red__law_word : ∀ ds w Q E, sp__law_word ds w Q E → t__law_word E { nx := fun _ w1 => Q .non w1, rt := Q } (startD ["_law_cell_here", "_law_nums", "_law_some", "_law_size", "_law_num"] ds) w := by
  rintro ds w Q E ⟨c, rfl, q⟩
  unfold t__law_word
  walk_at "td"
  refine ⟨_, 13, 9360, rfl, by decide, by decide, by decide, ?_⟩
  have hl := rowM_len (c := c) (many := 13) (size := 9360) (by decide)
  generalize rowM c 13 9360 = nums at hl
  walk_at "td"
  have ed : (nums.drop (HT.sIx nums.length 0 (some 1))).take (HT.sIx nums.length nums.length none - HT.sIx nums.length 0 (some 1)) = nums.drop 1 := by
    have e1 : HT.sIx nums.length 0 (some 1) = 1 := by
      have := HT.sIx_nat nums.length 0 1
      rw [hl] at this ⊢; exact this
    rw [e1, HT.sIx_none]
    exact List.take_of_length_le (by rw [List.length_drop]; exact Nat.le_refl _)
  refine ⟨rfl, lc_text (ms := nums.drop 1) (show 4 < 5 by decide) (fun R h => ?_) (by rw [List.length_drop]; omega) ?_⟩
  · walk_at "td"
    rw [cutD_ints, ed]; exact h
  walk_at "td"
  rw [ixD_l (atI_ints (by decide) (by rw [hl]; decide))]
  walk_at "td"
  refine ⟨by decide, ?_⟩
  rw [ixD_l (atI_ints (by decide) (by rw [hl]; decide))]
  walk_at "td"
  refine ⟨⟨by decide, by decide⟩, by decide, ?_⟩
  generalize nums.getD 0 0 = n0
  split
  · refine ⟨by decide, ?_⟩
    rw [ixD_l (atI_ints (by decide) (by rw [hl]; decide))]
    walk_at "td"
    refine ⟨by decide, ?_⟩
    generalize nums.getD 1 0 = n1
    have a0 : 0 ≤ n1 % 7 := Int.emod_nonneg _ (by decide)
    have a1 : n1 % 7 < 7 := Int.emod_lt_of_pos _ (by decide)
    generalize n1 % 7 = j at a0 a1
    have hj : j = 0 ∨ j = 1 ∨ j = 2 ∨ j = 3 ∨ j = 4 ∨ j = 5 ∨ j = 6 := by omega
    rcases hj with rfl | rfl | rfl | rfl | rfl | rfl | rfl
    · rw [ixD_t (d := .str "tide") rfl]; exact q _ (by decide +kernel)
    · rw [ixD_t (d := .str "tides") rfl]; exact q _ (by decide +kernel)
    · rw [ixD_t (d := .str "out") rfl]; exact q _ (by decide +kernel)
    · rw [ixD_t (d := .str "aaaaaaaaaaaa") rfl]; exact q _ (by decide +kernel)
    · rw [ixD_t (d := .str "a") rfl]; exact q _ (by decide +kernel)
    · rw [ixD_t (d := .str "b") rfl]; exact q _ (by decide +kernel)
    · rw [ixD_t (d := .str "zaaaaaaaaaaa") rfl]; exact q _ (by decide +kernel)
  · have b0 : 0 ≤ n0 % 12 := Int.emod_nonneg _ (by decide)
    have b1 : n0 % 12 < 12 := Int.emod_lt_of_pos _ (by decide)
    refine ⟨small (by rw [textM_len, List.length_drop]; omega), ?_⟩
    obtain ⟨k, hk⟩ : ∃ k : Nat, 1 + n0 % 12 = k := ⟨(1 + n0 % 12).toNat, by omega⟩
    rw [hk]
    exact q _ (cut_word (by rw [List.length_drop]; omega) (by omega) (by omega))
theorem red__law_some_words : ∀ ds w Q E, sp__law_some_words ds w Q E → t__law_some_words E { nx := fun _ w1 => Q .non w1, rt := Q } (startD ["_law_words", "_law_cell_here", "_law_most", "_law_nums", "_law_known", "_law_found", "_law_num", "_law_word_here"] ds) w := by
  rintro ds w Q E ⟨d, bk, c, most, rfl, hd, hbl, hbw, m0, m1, q⟩
  unfold t__law_some_words
  walk_at "td"
  refine ⟨_, 41, 9240, rfl, by decide, by decide, by decide, ?_⟩
  have hl := rowM_len (c := c) (many := 41) (size := 9240) (by decide)
  have hm := rowM_mem (c := c) (many := 41) (size := 9240) (by decide)
  generalize rowM c 41 9240 = nums at hl hm
  dsimp only
  rw [sortK_w hd]
  refine ⟨bk.map (·.2.2), by rw [List.map_map, List.map_map]; rfl, by rw [List.length_map]; omega, fun ys hperm _ => ?_⟩
  have hyl : ys.length ≤ 50 := by rw [hperm.length_eq, List.length_map]; exact hbl
  have hyw : ∀ z ∈ ys, wordB z = true := fun z hz => by
    obtain ⟨e, he, rfl⟩ := List.mem_map.mp (hperm.mem_iff.mp hz)
    exact hbw e he
  refine ⟨by decide, fun s hs => ?_⟩
  have ds : d ≠ s := fun z => by rw [z, hs] at hd; cases hd
  generalize hms : (nums.drop (HT.sIx nums.length 0 (some 1))).take (HT.sIx nums.length nums.length (some (1 + nums.getD 0 0 % (most + 1))) - HT.sIx nums.length 0 (some 1)) = ms
  have hml : ms.length ≤ 41 := by rw [← hms, List.length_take, List.length_drop]; omega
  have hmm : ∀ x ∈ ms, 0 ≤ x ∧ x < 9240 := fun x hx => hm x (by rw [← hms] at hx; exact List.mem_of_mem_drop (List.mem_of_mem_take hx))
  refine dFor_l (xs := ms.map D.int) (fun i S2 w2 => ∃ (zs : List Str) (k6 k7 : Option D), zs.all wordB = true ∧ zs.length = i ∧ i ≤ 41 ∧ S2 = [some (.ref d), some (.int c), some (.int most), some (iL nums), some (.lst (ys.map D.str)), some (.ref s), k6, k7] ∧ w2 = put w s (.lst (zs.map D.str))) (fun R h => ?_) ⟨[], none, none, rfl, rfl, by omega, rfl, rfl⟩ ?_ ?_
  · walk_at "td"
    rw [ixD_l (atI_ints (by decide) (by rw [hl]; decide))]
    walk_at "td"
    refine ⟨by omega, ?_⟩
    rw [cutD_ints]
    have e0 : nums.getD (Int.toNat 0) 0 = nums.getD 0 0 := rfl
    first | (rw [hms]; exact h) | (rw [e0, hms]; exact h)
  · rintro i dd S2 w2 hdd ⟨zs, k6, k7, hz, hzl, hi, rfl, rfl⟩
    obtain ⟨x, hx, rfl⟩ : ∃ x, ms[i]? = some x ∧ dd = .int x := by
      rw [List.getElem?_map] at hdd
      cases e : ms[i]? with
      | none => rw [e] at hdd; cases hdd
      | some x => rw [e] at hdd; cases hdd; exact ⟨x, rfl, rfl⟩
    have hxi := (List.getElem?_eq_some_iff.mp hx).1
    have hxb := hmm x (List.mem_of_getElem? hx)
    walk_at "td"
    refine ⟨.inl ⟨by omega, by omega⟩, ?_⟩
    rw [ixD_l (atI_ints (by decide) (by rw [hl]; decide))]
    refine ⟨_, rfl, fun z hzw => ?_⟩
    dsimp only
    refine dCut_if (b := decide (0 < x % 3) && decide ((0 : Int) < ys.length)) (fun S2 w2 => ∃ (z : Str) (k6 : Option D), wordB z = true ∧ S2 = [some (.ref d), some (.int c), some (.int most), some (iL nums), some (.lst (ys.map D.str)), some (.ref s), k6, some (.str z)] ∧ w2 = put w s (.lst (zs.map D.str))) ?_ ?_ ?_ ?_
    · refine evt_and (evt_B fun Q q => ?_) ⟨fun _ => evt_B fun Q q => ?_⟩
      · walk_at "td"; exact ⟨by decide, q⟩
      · walk_at "td"; rw [List.length_map]; exact q
    · intro h
      walk_at "bl"
      walk_at "td"
      rw [List.length_map]
      refine ⟨⟨by decide, by decide⟩, by omega, ?_⟩
      have b0 : 0 ≤ x / 3 % ys.length := Int.emod_nonneg _ (by omega)
      have b1 : x / 3 % ys.length < ys.length := Int.emod_lt_of_pos _ (by omega)
      generalize x / 3 % ys.length = j at b0 b1
      have hj : j.toNat < ys.length := by omega
      rw [ixD_l (d := .str ys[j.toNat]) (atI_of b0 (by rw [List.getElem?_map, List.getElem?_eq_getElem hj]; rfl))]
      exact ⟨_, _, hyw _ (List.getElem_mem hj), rfl, rfl⟩
    · intro _
      exact ⟨z, _, hzw, rfl, rfl⟩
    rintro S2 w2 ⟨z, k6, hzw, rfl, rfl⟩
    walk_at "td"
    refine ⟨smallL (by rw [List.length_map]; omega), zs ++ [z], _, _, by rw [List.all_append, hz]; simp [hzw], by rw [List.length_append, hzl]; rfl, by omega, rfl, by rw [List.map_append]; rfl⟩
  · rintro S2 w2 ⟨zs, k6, k7, hz, hzl, hi, rfl, rfl⟩
    walk_at "td"
    rw [rid_put hs]
    exact q zs hz (by omega)
end TD

set_option maxHeartbeats 4000000
namespace TD
open PySem PySem.Spec PyProof.Rows L2
local macro_rules | `(tactic| walk_at "td") => `(tactic| simp only [dSeq, dIf, dB, dOp, dUn, dCB, dVar, dC, dRet, dRetN, dNext, dDrop, dAsg, dAnd, dOr, dNot, dAndV, dOrV, dNotV, dIfE, dChain, dCons, dNil, dTup, dLst, dLstO, dCall, dSl, dPart, dNoPart, dBM, dBM0, dAug, dAsgG, dgName, dgTup, setAll, dCont, dBreak,
  addD_ii, addD_ss, addD_tt, addD_ll, subD_ii, mulD_ii, mulD_li, fdivD_ii, modD_ii, powD_ii, negD_i, ltD_ii, leD_ii, gtD_ii, geD_ii, eqD_ii, eqD_ss, eqD_bb, eqD_nn, eqD_ni, eqD_in, isN_x, isNon_non, isNon_int, isNon_str, isNon_bl, isNon_lst, isNon_tup, isNon_ref, lenD_l, lenD_r, lenD_t, lenD_s, slD_l, slD_t, slD_s, listD_l, listD_r, listD_t, listD_lO, listD_tO, tupleD_l, tupleD_t, sumD_l, allD_l, maxD_ii, minD_ii, absD_i, atSeq_l, atSeq_r, wipeD, dTy_put, app_put, true_and, and_true, dFrz, put_same, Option.bind_some, frzD_lst,
  startD, List.map_cons, List.map_nil, List.cons_append, List.nil_append, List.length_cons, List.length_nil, List.getElem?_cons_zero, List.getElem?_cons_succ, List.set_cons_zero, List.set_cons_succ, List.replicate_succ, List.replicate_zero, List.append_nil, Nat.reduceAdd, Nat.reduceSub, Int.reduceToNat, decide_eq_true_eq, Bool.false_bne, Bool.true_bne, Bool.not_eq_true', Bool.not_eq_true, decide_eq_false_iff_not, Bool.false_eq_true, Bool.true_eq_false, if_true, if_false, ite_true, ite_false, reduceIte])
local macro_rules | `(tactic| walk_at "leaf") => `(tactic| (intro Q q; first | exact q | exact ⟨by omega, q⟩ | exact ⟨⟨by omega, by omega⟩, q⟩ | exact ⟨.inl ⟨by omega, by omega⟩, q⟩ | exact ⟨.inr ⟨by omega, by omega⟩, q⟩ | (rw [ixD_l (atI_ints (by first | omega | grind) (by first | omega | grind))]; exact q) | (rw [inD_lst rfl (all_ints _), inL_ints]; exact q) | (rw [lenD_l, List.length_map]; exact q) | (rw [lenD_r, List.length_map]; exact q)))
local macro_rules | `(tactic| walk_at "ev") => `(tactic| repeat' (first | exact eve_var rfl | exact eve_c | exact eva_nil | apply evt_and | apply evt_or | apply evt_not | apply evt_B | apply eva_cons | apply eve_and | apply eve_or | apply eve_not | apply eve_chain | apply eve_op | apply eve_un | apply eve_cb | (refine Gd.mk (fun _ => ?_)) | (refine Gn.mk (fun _ => ?_)) | walk_at "leaf"))
local macro_rules | `(tactic| walk_at "bl") => `(tactic| simp only [Bool.false_bne, Bool.true_bne, Bool.and_eq_true, Bool.or_eq_true, Bool.and_eq_false_iff, Bool.or_eq_false_iff, Bool.not_eq_true', Bool.not_eq_false', Bool.not_not, decide_eq_true_eq, decide_eq_false_iff_not] at *)
local macro_rules | `(tactic| walk_at "ls") => `(tactic| simp (config := {decide := true}) only [dSeq, dIf, dB, dOp, dUn, dCB, dVar, dC, dRet, dRetN, dNext, dDrop, dAsg, dAnd, dOr, dNot, dAndV, dOrV, dNotV, dIfE, dChain, dCons, dNil, dTup, dLst, dLstO, dCall, dSl, dPart, dNoPart, dBM, dBM0, dAug, dAsgG, dgName, dgTup, setAll, dCont, dBreak,
  addD_ii, addD_ss, addD_tt, addD_ll, subD_ii, mulD_ii, mulD_li, fdivD_ii, modD_ii, powD_ii, negD_i, ltD_ii, leD_ii, gtD_ii, geD_ii, eqD_ii, eqD_ss, eqD_bb, eqD_nn, eqD_ni, eqD_in, isN_x, isNon_non, isNon_int, isNon_str, isNon_bl, isNon_lst, isNon_tup, isNon_ref, lenD_l, lenD_r, lenD_t, lenD_s, slD_l, slD_t, slD_s, listD_l, listD_r, listD_t, listD_lO, listD_tO, tupleD_l, tupleD_t, sumD_l, allD_l, maxD_ii, minD_ii, absD_i, atSeq_l, atSeq_r, wipeD, dTy_put, app_put, true_and, and_true, dFrz, put_same, Option.bind_some, frzD_lst,
  startD, List.map_cons, List.map_nil, List.cons_append, List.nil_append, List.length_cons, List.length_nil, List.getElem?_cons_zero, List.getElem?_cons_succ, List.set_cons_zero, List.set_cons_succ, List.replicate_succ, List.replicate_zero, List.append_nil, Nat.reduceAdd, Nat.reduceSub, Int.reduceToNat, decide_eq_true_eq, Bool.false_bne, Bool.true_bne, Bool.not_eq_true', Bool.not_eq_true, decide_eq_false_iff_not, Bool.false_eq_true, Bool.true_eq_false, if_true, if_false, ite_true, ite_false, reduceIte,
  atO_q, insK_s, getF_hd, getF_tl, putD_nil, putD_hd, putD_tl, look_hd, look_tl, look_nil, put_same, put_ne, put_en, ne_eq, not_false_eq_true, not_true_eq_false, true_and, and_true, dFld, dFldS, dNewK, dNewT, dMeth, dMake, dSetK, dPopK, dGet1, ixD_ref, ixNd_l, ixNd_ks, ixNd_ki, ixNd_t1, ixNd_t2, ixNd_t3, inD_ref, inNd_ks, inNd_ki, inNd_t2, inNd_t3, lenD_ref, lenNd_l, lenNd_k, listD_ref, lisNd_l, lisNd_o, tupleD_ref, tupNd_l, appD_1, popD_0, clrD_0, atL_ref, atLd_l, dPutAt_ref, putNd_ks, putNd_ki, putNd_t1, putNd_t2, putNd_t3, dPopAt_ref, popNd_ki, popNd_ks, popNd_t2, popNd_t3, isDc_ref, isDn_k, isDn_t, copyK_q, copyT_q, copNd_o, copNd_f, cotNd_o, cotNd_f, sortN_q, srtNd_k, mulDO_li, ixT_0, ixT_1, ixT_2, ixT_3, valD_hd, valD_tl, valD_nil, setK_nil, setK_1, setK_20, setK_21, optD_s, Option.isSome_some, Option.isSome_none, *])
local macro_rules | `(tactic| walk_at "fin") => `(tactic| simp (config := {decide := true}) only [put_same, put_ne, put_en, rid_same, rid_en, put_eqn, ne_eq, not_false_eq_true, not_true_eq_false, true_and, and_true, and_self, implies_true, List.forall_mem_cons, List.not_mem_nil, false_implies, List.nodup_cons, List.mem_cons, or_false, or_self, List.nodup_nil, *])
/-! ### the keepers' books -/
abbrev bksC (K : PySem.W.Frag) : Addr := He.ga K "Books"
abbrev bksF (m : Int) (wr gn : Addr) : List (Str × D) := [("size", .int m), ("written", .ref wr), ("gone", .ref gn)]
structure BA where
  bk : Addr
  wr : Addr
  gn : Addr
  wu : Addr
  wd : Addr
abbrev BA.all (B : BA) : List Addr := [B.bk, B.wr, B.gn, B.wu, B.wd]
structure Bks where
  wu : List (List Int)
  wd : List (List Int)
  gone : List (Str × Int × Int)
def tI (r : List Int) : D := .tup (r.map D.int)
def gnK (g : Str × Int × Int) : List L2.Key × D := ([.inr g.1, .inl g.2.1, .inl g.2.2], .bl true)
def Bks.new (m : Int) : Bks := ⟨List.replicate m.toNat [], List.replicate m.toNat [], []⟩
abbrev wrN (B : BA) : Nd := .dK [(.inr "up", .ref B.wu), (.inr "down", .ref B.wd)]
def bnodes (K : PySem.W.Frag) (B : BA) (m : Int) (b : Bks) : List (Addr × Nd) :=
  [(B.bk, .ins (bksC K) (bksF m B.wr B.gn)), (B.wr, wrN B), (B.gn, .dT (b.gone.map gnK)), (B.wu, .lst (b.wu.map tI)), (B.wd, .lst (b.wd.map tI))]
structure BkAt (K : PySem.W.Frag) (w : Wd) (B : BA) (m : Int) (b : Bks) : Prop where
  nd : B.all.Nodup
  bk : w B.bk = some (.ins (bksC K) (bksF m B.wr B.gn))
  wr : w B.wr = some (wrN B)
  gn : w B.gn = some (.dT (b.gone.map gnK))
  wu : w B.wu = some (.lst (b.wu.map tI))
  wd : w B.wd = some (.lst (b.wd.map tI))
def bkD (K : PySem.W.Frag) (m : Int) (b : Bks) : D := .obj (bksC K) ["size", "written", "gone"] [.int m, .dct [.inr "up", .inr "down"] [.lst (b.wu.map tI), .lst (b.wd.map tI)], .dtt ((b.gone.map gnK).map (·.1)) ((b.gone.map gnK).map (·.2))]
/-- the nodes of w stand; as are new -/
def Gro (w w1 : Wd) (as : List Addr) : Prop := (∀ a n, w a = some n → w1 a = some n) ∧ ∀ a ∈ as, w a = none
def sp_Books_init (K : PySem.W.Frag) : DSp := fun ds w Q _ => ∃ (q : Addr) (m : Int), ds = [.ref q, .int m] ∧ 0 ≤ m ∧ m ≤ 1000 ∧ w q = some (.ins (bksC K) []) ∧ ∀ (w1 : Wd) (B : BA), B.bk = q → BkAt K w1 B m (Bks.new m) → Gro (rid w q) w1 B.all → Q .non w1
def sp_Books_copied (K : PySem.W.Frag) : DSp := fun ds w Q _ => ∃ (B : BA) (m : Int) (b : Bks), ds = [.ref B.bk] ∧ 0 ≤ m ∧ m ≤ 1000 ∧ BkAt K w B m b ∧ HashApart ((b.gone.map gnK).map (·.1)) ∧ ∀ (w1 : Wd) (B' : BA), BkAt K w1 B' m b → Gro w w1 B'.all → Q (.ref B'.bk) w1
def t_Books_init (K : PySem.W.Frag) (E : DX) : DS :=
  let W' : DWX := fun c d _ w => E c d w
  (dSeq (dFldS (He.ga K "Books") "size" (dVar 0) (dVar 1)) (dSeq (dFldS (He.ga K "Books") "written" (dVar 0) dNewK) (dSeq (dFldS (He.ga K "Books") "gone" (dVar 0) dNewT) (dFor (diT (dC (.rot [.str "up", .str "down"]))) (dgName 2) (dSetK (dOp mulDO (dLst (dCons (dTup dNil) dNil)) (dVar 1)) (dFld (He.ga K "Books") "written" (dVar 0)) (dVar 2))))))
def t_Books_copied (K : PySem.W.Frag) (E : DX) : DS :=
  let W' : DWX := fun c d _ w => E c d w
  (dSeq (dAsg (dMake (He.ga K "Books") (sp_Books_init K) W' (dCons (dFld (He.ga K "Books") "size" (dVar 0)) dNil)) 1) (dSeq (dFor (diT (dC (.rot [.str "up", .str "down"]))) (dgName 2) (dSetK (dCB (listD true) (dCons (dOp ixD (dFld (He.ga K "Books") "written" (dVar 0)) (dVar 2)) dNil)) (dFld (He.ga K "Books") "written" (dVar 1)) (dVar 2))) (dSeq (dFldS (He.ga K "Books") "gone" (dVar 1) (dCB (copyT true) (dCons (dFld (He.ga K "Books") "gone" (dVar 0)) dNil))) (dRet (dVar 1)))))
theorem rep_tI (n : Nat) : List.replicate n (D.tup []) = (List.replicate n ([] : List Int)).map tI := by
  rw [List.map_replicate]; rfl
theorem red_Books_init {K : PySem.W.Frag} : ∀ ds w Q E, sp_Books_init K ds w Q E → t_Books_init K E { nx := fun _ w1 => Q .non w1, rt := Q } (startD ["self", "masts", "way"] ds) w := by
  rintro ds w Q E ⟨q, m, rfl, h0, h1, hq, k⟩
  unfold t_Books_init
  walk_at "ls"
  intro wr hwr
  simp only [put_eqn] at hwr
  walk_at "ls"
  intro gn hgn
  simp only [put_eqn] at hgn
  walk_at "ls"
  refine dFor_rot (fun R h => h) ?_
  unfold forU
  walk_at "ls"
  refine ⟨by omega, by omega, small (by show 1 * m.toNat ≤ _; omega), ?_⟩
  intro wu hwu
  simp only [put_eqn] at hwu
  walk_at "ls"
  unfold forU
  walk_at "ls"
  refine ⟨by omega, by omega, small (by show 1 * m.toNat ≤ _; omega), ?_⟩
  intro wd hwd
  simp only [put_eqn] at hwd
  walk_at "ls"
  unfold forU
  walk_at "ls"
  have e1 : (List.replicate m.toNat [D.tup []]).flatten = (Bks.new m).wu.map tI := by rw [rep_one]; exact rep_tI _
  refine k _ ⟨q, wr, gn, wu, wd⟩ rfl ⟨?_, ?_, ?_, ?_, ?_, ?_⟩ ⟨fun a n h => ?_, ?_⟩
  · walk_at "fin"; grind
  · walk_at "fin"
  · walk_at "fin"
  · walk_at "fin"; rfl
  · rw [← e1]; walk_at "fin"
  · show _ = some (Nd.lst ((Bks.new m).wu.map tI)); rw [← e1]; walk_at "fin"
  · unfold rid at h
    split at h
    · cases h
    · have h1 : a ≠ wr := fun z => by rw [z] at h; rw [hwr.2] at h; cases h
      have h2 : a ≠ gn := fun z => by rw [z] at h; rw [hgn.2.2.2] at h; cases h
      have h3 : a ≠ wu := fun z => by rw [z] at h; rw [hwu.2.2.2.2.2] at h; cases h
      have h4 : a ≠ wd := fun z => by rw [z] at h; rw [hwd.2.2.2.2.2.2.2] at h; cases h
      walk_at "fin"
  · grind [rid]
theorem BkAt.grow {K : PySem.W.Frag} {w w1 : Wd} {B : BA} {m : Int} {b : Bks} (h : BkAt K w B m b) (g : ∀ a n, w a = some n → w1 a = some n) : BkAt K w1 B m b :=
  ⟨h.nd, g _ _ h.bk, g _ _ h.wr, g _ _ h.gn, g _ _ h.wu, g _ _ h.wd⟩
theorem red_Books_copied {K : PySem.W.Frag} : ∀ ds w Q E, sp_Books_copied K ds w Q E → t_Books_copied K E { nx := fun _ w1 => Q .non w1, rt := Q } (startD ["self", "other", "way"] ds) w := by
  rintro ds w Q E ⟨B, m, b, rfl, h0, h1, hB, hap, k⟩
  have hbk := hB.bk
  have hwr := hB.wr
  have hgn := hB.gn
  have hwu := hB.wu
  have hwd := hB.wd
  unfold t_Books_copied
  walk_at "ls"
  intro p hp
  refine ⟨p, m, rfl, h0, h1, put_same, fun w1 B1 e1 hB1 g1 => ⟨rfl, ?_⟩⟩
  rw [rid_put hp] at g1
  subst e1
  obtain ⟨g1, f1⟩ := g1
  have nd := hB.nd
  have nd1 := hB1.nd
  have c1 := g1 _ _ hbk
  have c2 := g1 _ _ hwr
  have c3 := g1 _ _ hgn
  have c4 := g1 _ _ hwu
  have c5 := g1 _ _ hwd
  have b1 := hB1.bk
  have b2 := hB1.wr
  have o1 : ∀ a n, w a = some n → a ∉ B1.all := fun a n h z => by rw [f1 a z] at h; cases h
  have o2 := o1 _ _ hbk
  have o3 := o1 _ _ hwr
  have o4 := o1 _ _ hgn
  have o5 := o1 _ _ hwu
  have o6 := o1 _ _ hwd
  simp only [BA.all, List.mem_cons, List.not_mem_nil, or_false, not_or] at o2 o3 o4 o5 o6
  simp only [BA.all, List.nodup_cons, List.mem_cons, List.not_mem_nil, or_false, not_or] at nd nd1
  refine dFor_rot (fun R h => h) ?_
  unfold forU
  walk_at "ls"
  intro q1 hq1
  have x1 := ne_new c1 hq1
  have x2 := ne_new c2 hq1
  have x3 := ne_new c3 hq1
  have x4 := ne_new c5 hq1
  have x5 := ne_new b1 hq1
  have x6 := ne_new b2 hq1
  walk_at "ls"
  unfold forU
  walk_at "ls"
  intro q2 hq2
  simp only [put_eqn] at hq2
  have y1 := ne_new c1 hq2.2.2
  have y2 := ne_new c2 hq2.2.2
  have y3 := ne_new c3 hq2.2.2
  have y5 := ne_new b1 hq2.2.2
  have y6 := ne_new b2 hq2.2.2
  walk_at "ls"
  unfold forU
  walk_at "ls"
  intro q3 hq3
  simp only [put_eqn] at hq3
  have z5 := ne_new b1 hq3.2.2.2.2
  have z6 := ne_new b2 hq3.2.2.2.2
  walk_at "ls"
  refine k _ ⟨B1.bk, B1.wr, q3, q1, q2⟩ ⟨?_, ?_, ?_, ?_, ?_, ?_⟩ ⟨fun a n h => ?_, ?_⟩
  · simp only [BA.all, List.nodup_cons, List.mem_cons, List.not_mem_nil, or_false, not_or]; grind
  · walk_at "fin"
  · walk_at "fin"
  · walk_at "fin"
  · walk_at "fin"
  · walk_at "fin"
  · have h1 := g1 a n h
    have h2 := o1 a n h
    have h3 := ne_new h1 hq1
    have h4 := ne_new h1 hq2.2.2
    have h5 := ne_new h1 hq3.2.2.2.2
    simp only [BA.all, List.mem_cons, List.not_mem_nil, or_false, not_or] at h2
    walk_at "fin"
  · have hn : ∀ q, w1 q = none → w q = none := fun q h => by
      cases e : w q with
      | none => rfl
      | some n => rw [g1 q n e] at h; cases h
    have f2 := f1 B1.bk (by simp)
    have f3 := f1 B1.wr (by simp)
    have h1 := hn _ hq1
    have h2 := hn _ hq2.2.2
    have h3 := hn _ hq3.2.2.2.2
    grind
/-- a copy of the books becomes persistent -/
theorem bk_fz {K : PySem.W.Frag} {w w1 : Wd} {B : BA} {m : Int} {b : Bks} (h : BkAt K w1 B m b) (g : Gro w w1 B.all) : ∃ w2, Fz w1 (.ref B.bk) (bkD K m b) w2 ∧ ∀ a n, w a = some n → w2 a = some n := by
  obtain ⟨g1, f1⟩ := g
  have nd := h.nd
  have b1 := h.bk
  have b2 := h.wr
  have b3 := h.gn
  have b4 := h.wu
  have b5 := h.wd
  simp only [BA.all, List.nodup_cons, List.mem_cons, List.not_mem_nil, or_false, not_or] at nd
  refine ⟨rid (rid (rid (rid (rid w1 B.bk) B.wr) B.wu) B.wd) B.gn, ?_, fun a n ha => ?_⟩
  · refine Fz.ins b1 (.cons .keep (.cons (Fz.dK (kvs := [(.inr "up", .ref B.wu), (.inr "down", .ref B.wd)]) ?_ (.cons (Fz.lst (ds := b.wu.map tI) ?_ (fzl_keep _)) (.cons (Fz.lst (ds := b.wd.map tI) ?_ (fzl_keep _)) .nil))) (.cons (Fz.dT (kvs := b.gone.map gnK) ?_ (fzl_keep _)) .nil)))
    · grind [rid]
    · grind [rid]
    · grind [rid]
    · grind [rid]
  · have h1 := g1 a n ha
    have h2 : a ∉ B.all := fun z => by rw [f1 a z] at ha; cases ha
    simp only [BA.all, List.mem_cons, List.not_mem_nil, or_false, not_or] at h2
    grind [rid]
end TD

set_option maxHeartbeats 4000000
namespace TD
open PySem PySem.Spec PyProof.Rows L2
local macro_rules | `(tactic| walk_at "td") => `(tactic| simp only [dSeq, dIf, dB, dOp, dUn, dCB, dVar, dC, dRet, dRetN, dNext, dDrop, dAsg, dAnd, dOr, dNot, dAndV, dOrV, dNotV, dIfE, dChain, dCons, dNil, dTup, dLst, dLstO, dCall, dSl, dPart, dNoPart, dBM, dBM0, dAug, dAsgG, dgName, dgTup, setAll, dCont, dBreak,
  addD_ii, addD_ss, addD_tt, addD_ll, subD_ii, mulD_ii, mulD_li, fdivD_ii, modD_ii, powD_ii, negD_i, ltD_ii, leD_ii, gtD_ii, geD_ii, eqD_ii, eqD_ss, eqD_bb, eqD_nn, eqD_ni, eqD_in, isN_x, isNon_non, isNon_int, isNon_str, isNon_bl, isNon_lst, isNon_tup, isNon_ref, lenD_l, lenD_r, lenD_t, lenD_s, slD_l, slD_t, slD_s, listD_l, listD_r, listD_t, listD_lO, listD_tO, tupleD_l, tupleD_t, sumD_l, allD_l, maxD_ii, minD_ii, absD_i, atSeq_l, atSeq_r, wipeD, dTy_put, app_put, true_and, and_true, dFrz, put_same, Option.bind_some, frzD_lst,
  startD, List.map_cons, List.map_nil, List.cons_append, List.nil_append, List.length_cons, List.length_nil, List.getElem?_cons_zero, List.getElem?_cons_succ, List.set_cons_zero, List.set_cons_succ, List.replicate_succ, List.replicate_zero, List.append_nil, Nat.reduceAdd, Nat.reduceSub, Int.reduceToNat, decide_eq_true_eq, Bool.false_bne, Bool.true_bne, Bool.not_eq_true', Bool.not_eq_true, decide_eq_false_iff_not, Bool.false_eq_true, Bool.true_eq_false, if_true, if_false, ite_true, ite_false, reduceIte])
local macro_rules | `(tactic| walk_at "leaf") => `(tactic| (intro Q q; first | exact q | exact ⟨by omega, q⟩ | exact ⟨⟨by omega, by omega⟩, q⟩ | exact ⟨.inl ⟨by omega, by omega⟩, q⟩ | exact ⟨.inr ⟨by omega, by omega⟩, q⟩ | (rw [ixD_l (atI_ints (by first | omega | grind) (by first | omega | grind))]; exact q) | (rw [inD_lst rfl (all_ints _), inL_ints]; exact q) | (rw [lenD_l, List.length_map]; exact q) | (rw [lenD_r, List.length_map]; exact q)))
local macro_rules | `(tactic| walk_at "ev") => `(tactic| repeat' (first | exact eve_var rfl | exact eve_c | exact eva_nil | apply evt_and | apply evt_or | apply evt_not | apply evt_B | apply eva_cons | apply eve_and | apply eve_or | apply eve_not | apply eve_chain | apply eve_op | apply eve_un | apply eve_cb | (refine Gd.mk (fun _ => ?_)) | (refine Gn.mk (fun _ => ?_)) | walk_at "leaf"))
local macro_rules | `(tactic| walk_at "bl") => `(tactic| simp only [Bool.false_bne, Bool.true_bne, Bool.and_eq_true, Bool.or_eq_true, Bool.and_eq_false_iff, Bool.or_eq_false_iff, Bool.not_eq_true', Bool.not_eq_false', Bool.not_not, decide_eq_true_eq, decide_eq_false_iff_not] at *)
/-! ### ways -/
def isWay (x : Str) : Bool := decide (x = "up") || decide (x = "down")
def isMast (m k : Int) : Bool := decide (0 ≤ k) && decide (k < m)
def placeM (x : Str) (m k : Int) : Int := if x = "up" then k else m - 1 - k
def alongM (x : Str) (ns : List Int) : List Int := if x = "up" then ns else ns.reverse
def sp_check_way (K : PySem.W.Frag) : DSp := fun ds w Q E => ∃ x : Str, ds = [.str x] ∧ if isWay x = true then Q .non w else E (cls K "BadWay") none w
def sp_check_mast (K : PySem.W.Frag) : DSp := fun ds w Q E => ∃ m k : Int, ds = [.int m, .int k] ∧ if isMast m k = true then Q .non w else E (cls K "NoMast") none w
def sp_place_of (K : PySem.W.Frag) : DSp := fun ds w Q E => ∃ (x : Str) (m k : Int), ds = [.str x, .int m, .int k] ∧ if isWay x = true then (if isMast m k = true then Q (.int (placeM x m k)) w else E (cls K "NoMast") none w) else E (cls K "BadWay") none w
def sp_along (K : PySem.W.Frag) : DSp := fun ds w Q E => ∃ (x : Str) (d : D) (ns : List Int), ds = [.str x, d] ∧ getM w d = some (ns.map D.int) ∧ if isWay x = true then (∀ p, w p = none → Q (.ref p) (put w p (.lst ((alongM x ns).map D.int)))) else E (cls K "BadWay") none w
theorem getS_m {w : Wd} {d : D} {xs : List D} (h : getM w d = some xs) : getS w d = some xs := by
  rcases getM_cases h with rfl | ⟨p, rfl, hw⟩
  · rfl
  · unfold getS; simp only [getL, hw]
theorem listD_m {w : Wd} {d : D} {xs : List D} {Q : DKt} (h : getM w d = some xs) : listD false [d] w Q = Q (.lst xs) w := by
  unfold listD; simp only [getS_m h]; rfl
theorem listD_mO {w : Wd} {d : D} {xs : List D} {Q : DKt} (h : getM w d = some xs) : listD true [d] w Q = (∀ p, w p = none → Q (.ref p) (put w p (.lst xs))) := by
  unfold listD; simp only [getS_m h]; rfl
def t_check_way (K : PySem.W.Frag) (E : DX) : DS :=
  let W' : DWX := fun c d _ w => E c d w
  (dIf (dB (dOp (inD true) (dVar 0) (dC (.rot [.str "up", .str "down"])))) (dRaise (cls K "BadWay") W') dNext)
def t_check_mast (K : PySem.W.Frag) (E : DX) : DS :=
  let W' : DWX := fun c d _ w => E c d w
  (dIf (dOr (dB (dOp ltD (dVar 1) (dC (.int 0)))) (dB (dOp geD (dVar 1) (dVar 0)))) (dRaise (cls K "NoMast") W') dNext)
def t_place_of (K : PySem.W.Frag) (E : DX) : DS :=
  let W' : DWX := fun c d _ w => E c d w
  (dSeq (dDrop (dCall ((sp_check_way K)) W' (dCons (dVar 0) dNil))) (dSeq (dDrop (dCall ((sp_check_mast K)) W' (dCons (dVar 1) (dCons (dVar 2) dNil)))) (dSeq (dIf (dB (dOp (eqD false) (dVar 0) (dC (.str "up")))) (dRet (dVar 2)) dNext) (dRet (dOp subD (dOp subD (dVar 1) (dC (.int 1))) (dVar 2))))))
def t_along (K : PySem.W.Frag) (E : DX) : DS :=
  let W' : DWX := fun c d _ w => E c d w
  (dSeq (dDrop (dCall ((sp_check_way K)) W' (dCons (dVar 0) dNil))) (dSeq (dIf (dB (dOp (eqD false) (dVar 0) (dC (.str "up")))) (dRet (dCB (listD true) (dCons (dVar 1) dNil))) dNext) (dRet (dRevO (dCB (listD false) (dCons (dVar 1) dNil))))))
theorem inL_ways (x : Str) : inL (.str x) [.str "up", .str "down"] = isWay x := by
  unfold inL isWay
  show (decide (("up" : Str) = x) || (decide (("down" : Str) = x) || false)) = _
  rw [Bool.or_false, decide_eq_decide.mpr (eq_comm (a := ("up" : Str)) (b := x)), decide_eq_decide.mpr (eq_comm (a := ("down" : Str)) (b := x))]
theorem red_check_way {K : PySem.W.Frag} : ∀ ds w Q E, sp_check_way K ds w Q E → t_check_way K E { nx := fun _ w1 => Q .non w1, rt := Q } (startD ["way"] ds) w := by
  rintro ds w Q E ⟨x, rfl, q⟩
  unfold t_check_way
  walk_at "td"
  rw [inD_rot rfl rfl, inL_ways]
  cases h : isWay x with
  | true => rw [h] at q; exact q
  | false => rw [h] at q; exact q
theorem red_check_mast {K : PySem.W.Frag} : ∀ ds w Q E, sp_check_mast K ds w Q E → t_check_mast K E { nx := fun _ w1 => Q .non w1, rt := Q } (startD ["masts", "mast"] ds) w := by
  rintro ds w Q E ⟨m, k, rfl, q⟩
  unfold t_check_mast
  refine dIf_ev (by walk_at "ev") (fun h => ?_) (fun h => ?_)
  · walk_at "bl"
    rw [if_neg (by unfold isMast; simp; omega)] at q
    exact q
  · walk_at "bl"
    rw [if_pos (by unfold isMast; simp; omega)] at q
    exact q
theorem red_place_of {K : PySem.W.Frag} : ∀ ds w Q E, sp_place_of K ds w Q E → t_place_of K E { nx := fun _ w1 => Q .non w1, rt := Q } (startD ["way", "masts", "mast"] ds) w := by
  rintro ds w Q E ⟨x, m, k, rfl, q⟩
  unfold t_place_of
  walk_at "td"
  refine ⟨x, rfl, ?_⟩
  cases h : isWay x with
  | false => rw [h] at q; exact q
  | true =>
    rw [h] at q
    simp only [if_true] at q ⊢
    refine ⟨m, k, rfl, ?_⟩
    cases h2 : isMast m k with
    | false => rw [h2] at q; exact q
    | true =>
      rw [h2] at q
      simp only [if_true] at q ⊢
      unfold placeM at q
      by_cases e : x = "up"
      · rw [if_pos e] at q ⊢; exact q
      · rw [if_neg e] at q ⊢; exact q
theorem red_along {K : PySem.W.Frag} : ∀ ds w Q E, sp_along K ds w Q E → t_along K E { nx := fun _ w1 => Q .non w1, rt := Q } (startD ["way", "row"] ds) w := by
  rintro ds w Q E ⟨x, d, ns, rfl, hd, q⟩
  unfold t_along dRevO
  walk_at "td"
  refine ⟨x, rfl, ?_⟩
  cases h : isWay x with
  | false => rw [h] at q; exact q
  | true =>
    rw [h] at q
    simp only [if_true] at q ⊢
    unfold alongM at q
    by_cases e : x = "up"
    · simp only [if_pos e] at q ⊢
      rw [listD_mO hd]; exact q
    · simp only [if_neg e] at q ⊢
      rw [listD_m hd]
      rw [List.map_reverse] at q
      exact q
end TD

set_option maxHeartbeats 4000000
namespace TD
open PySem PySem.Spec PyProof.Rows L2
local macro_rules | `(tactic| walk_at "td") => `(tactic| simp only [dSeq, dIf, dB, dOp, dUn, dCB, dVar, dC, dRet, dRetN, dNext, dDrop, dAsg, dAnd, dOr, dNot, dAndV, dOrV, dNotV, dIfE, dChain, dCons, dNil, dTup, dLst, dLstO, dCall, dSl, dPart, dNoPart, dBM, dBM0, dAug, dAsgG, dgName, dgTup, setAll, dCont, dBreak,
  addD_ii, addD_ss, addD_tt, addD_ll, subD_ii, mulD_ii, mulD_li, fdivD_ii, modD_ii, powD_ii, negD_i, ltD_ii, leD_ii, gtD_ii, geD_ii, eqD_ii, eqD_ss, eqD_bb, eqD_nn, eqD_ni, eqD_in, isN_x, isNon_non, isNon_int, isNon_str, isNon_bl, isNon_lst, isNon_tup, isNon_ref, lenD_l, lenD_r, lenD_t, lenD_s, slD_l, slD_t, slD_s, listD_l, listD_r, listD_t, listD_lO, listD_tO, tupleD_l, tupleD_t, sumD_l, allD_l, maxD_ii, minD_ii, absD_i, atSeq_l, atSeq_r, wipeD, dTy_put, app_put, true_and, and_true, dFrz, put_same, Option.bind_some, frzD_lst,
  startD, List.map_cons, List.map_nil, List.cons_append, List.nil_append, List.length_cons, List.length_nil, List.getElem?_cons_zero, List.getElem?_cons_succ, List.set_cons_zero, List.set_cons_succ, List.replicate_succ, List.replicate_zero, List.append_nil, Nat.reduceAdd, Nat.reduceSub, Int.reduceToNat, decide_eq_true_eq, Bool.false_bne, Bool.true_bne, Bool.not_eq_true', Bool.not_eq_true, decide_eq_false_iff_not, Bool.false_eq_true, Bool.true_eq_false, if_true, if_false, ite_true, ite_false, reduceIte])
local macro_rules | `(tactic| walk_at "leaf") => `(tactic| (intro Q q; first | exact q | exact ⟨by omega, q⟩ | exact ⟨⟨by omega, by omega⟩, q⟩ | exact ⟨.inl ⟨by omega, by omega⟩, q⟩ | exact ⟨.inr ⟨by omega, by omega⟩, q⟩ | (rw [ixD_l (atI_ints (by first | omega | grind) (by first | omega | grind))]; exact q) | (rw [inD_lst rfl (all_ints _), inL_ints]; exact q) | (rw [lenD_l, List.length_map]; exact q) | (rw [lenD_r, List.length_map]; exact q)))
local macro_rules | `(tactic| walk_at "ev") => `(tactic| repeat' (first | exact eve_var rfl | exact eve_c | exact eva_nil | apply evt_and | apply evt_or | apply evt_not | apply evt_B | apply eva_cons | apply eve_and | apply eve_or | apply eve_not | apply eve_chain | apply eve_op | apply eve_un | apply eve_cb | (refine Gd.mk (fun _ => ?_)) | (refine Gn.mk (fun _ => ?_)) | walk_at "leaf"))
local macro_rules | `(tactic| walk_at "bl") => `(tactic| simp only [Bool.false_bne, Bool.true_bne, Bool.and_eq_true, Bool.or_eq_true, Bool.and_eq_false_iff, Bool.or_eq_false_iff, Bool.not_eq_true', Bool.not_eq_false', Bool.not_not, decide_eq_true_eq, decide_eq_false_iff_not] at *)
local macro_rules | `(tactic| walk_at "ls") => `(tactic| try simp (config := {decide := true}) only [dSeq, dIf, dB, dOp, dUn, dCB, dVar, dC, dRet, dRetN, dNext, dDrop, dAsg, dAnd, dOr, dNot, dAndV, dOrV, dNotV, dIfE, dChain, dCons, dNil, dTup, dLst, dLstO, dCall, dSl, dPart, dNoPart, dBM, dBM0, dAug, dAsgG, dgName, dgTup, setAll, dCont, dBreak,
  addD_ii, addD_ss, addD_tt, addD_ll, subD_ii, mulD_ii, mulD_li, fdivD_ii, modD_ii, powD_ii, negD_i, ltD_ii, leD_ii, gtD_ii, geD_ii, eqD_ii, eqD_ss, eqD_bb, eqD_nn, eqD_ni, eqD_in, isN_x, isNon_non, isNon_int, isNon_str, isNon_bl, isNon_lst, isNon_tup, isNon_ref, lenD_l, lenD_r, lenD_t, lenD_s, slD_l, slD_t, slD_s, listD_l, listD_r, listD_t, listD_lO, listD_tO, tupleD_l, tupleD_t, sumD_l, allD_l, maxD_ii, minD_ii, absD_i, atSeq_l, atSeq_r, wipeD, dTy_put, app_put, true_and, and_true, dFrz, put_same, Option.bind_some, frzD_lst,
  startD, List.map_cons, List.map_nil, List.cons_append, List.nil_append, List.length_cons, List.length_nil, List.getElem?_cons_zero, List.getElem?_cons_succ, List.set_cons_zero, List.set_cons_succ, List.replicate_succ, List.replicate_zero, List.append_nil, Nat.reduceAdd, Nat.reduceSub, Int.reduceToNat, decide_eq_true_eq, Bool.false_bne, Bool.true_bne, Bool.not_eq_true', Bool.not_eq_true, decide_eq_false_iff_not, Bool.false_eq_true, Bool.true_eq_false, if_true, if_false, ite_true, ite_false, reduceIte,
  atO_q, insK_s, getF_hd, getF_tl, putD_nil, putD_hd, putD_tl, look_hd, look_tl, look_nil, put_same, put_put, put_ne, put_en, ne_eq, not_false_eq_true, not_true_eq_false, true_and, and_true, dFld, dFldS, dNewK, dNewT, dMeth, dMake, dSetK, dPopK, dGet1, ixD_ref, ixNd_l, ixNd_ks, ixNd_ki, ixNd_t1, ixNd_t2, ixNd_t3, inD_ref, inNd_ks, inNd_ki, inNd_t2, inNd_t3, lenD_ref, lenNd_l, lenNd_k, listD_ref, lisNd_l, lisNd_o, tupleD_ref, tupNd_l, appD_1, popD_0, clrD_0, atL_ref, atLd_l, dPutAt_ref, putNd_ks, putNd_ki, putNd_t1, putNd_t2, putNd_t3, dPopAt_ref, popNd_ki, popNd_ks, popNd_t2, popNd_t3, isDc_ref, isDn_k, isDn_t, copyK_q, copyT_q, copNd_o, copNd_f, cotNd_o, cotNd_f, sortN_q, srtNd_k, sortNO_q, sroNd_k, addD_wl, lstOf_l, inD_tup, inL_nl, inL_sc, inNd_li, intD_b, decide_true, decide_false, Bool.true_or, Bool.false_or, Bool.or_false, Bool.or_true, Bool.not_true, Bool.not_false, Bool.true_and, Bool.and_true, Bool.false_and, Bool.and_false, remD_1, mulDO_li, ixT_0, ixT_1, ixT_2, ixT_3, ixL_0, ixL_1, ixL_2, ixL_3, valD_hd, valD_tl, valD_nil, setK_nil, setK_1, setK_20, setK_21, setK_30, setK_31, setK_32, optD_s, Option.isSome_some, Option.isSome_none, *])
local macro_rules | `(tactic| walk_at "fin") => `(tactic| simp (config := {decide := true}) only [put_same, put_ne, put_en, rid_same, rid_en, put_eqn, ne_eq, not_false_eq_true, not_true_eq_false, true_and, and_true, and_self, implies_true, List.forall_mem_cons, List.not_mem_nil, false_implies, List.nodup_cons, List.mem_cons, or_false, or_self, List.nodup_nil, *])
/-! ### a line of masts -/
structure PhA where
  ph : Addr
  bp : Addr
  bw : Addr
abbrev PhA.all (P : PhA) : List Addr := [P.ph, P.bp, P.bw]
def pnodes (K : PySem.W.Frag) (P : PhA) (bk : List Ent) : List (Addr × Nd) := [(P.ph, .ins (bkC K) (bkF P.bp P.bw)), (P.bp, .dT (bk.map plK)), (P.bw, .dK (bk.map wdK))]
abbrev PhAt (K : PySem.W.Frag) (w : Wd) (P : PhA) (bk : List Ent) : Prop := AllAt w (pnodes K P bk)
def phD (K : PySem.W.Frag) (bk : List Ent) : D := .obj (bkC K) ["by_place", "by_word"] [.dtt ((bk.map plK).map (·.1)) ((bk.map plK).map (·.2)), .dct ((bk.map wdK).map (·.1)) ((bk.map wdK).map (·.2))]
def sp_Phrasebook_copied (K : PySem.W.Frag) : DSp := fun ds w Q _ => ∃ (P : PhA) (bk : List Ent), ds = [.ref P.ph] ∧ PhAt K w P bk ∧ HashApart ((bk.map plK).map (·.1)) ∧ ∀ (w1 : Wd) (P' : PhA), PhAt K w1 P' bk → Gro w w1 P'.all → Q (.ref P'.ph) w1
structure LA where
  p : Addr
  sh : Addr
  qs : Addr
  sl : Addr
  cl : Addr
  to : Addr
  pa : Addr
  ah : Addr
  b : BA
  h : PhA
structure LS where
  len : Int
  up : Bool
  shown : List Int
  qu : List Int
  qd : List Int
  sl : List Int
  cl : List Int
  bk : Bks
  ph : List Ent
  told : List Str
structure LL where
  s : LS
  past : List LS
  ahead : List LS
abbrev lnC (K : PySem.W.Frag) : Addr := He.ga K "Line"
def wayS (up : Bool) : Str := if up then "up" else "down"
def kT (l : List Int) : List (L2.Key × D) := l.map fun m => (.inl m, .bl true)
abbrev lnF (A : LA) (s : LS) : List (Str × D) := [("length", .int s.len), ("going", .str (wayS s.up)), ("shown", .ref A.sh), ("queues", .ref A.qs), ("sleepers", .ref A.sl), ("clouds", .ref A.cl), ("books", .ref A.b.bk), ("phrases", .ref A.h.ph), ("told", .ref A.to), ("past", .ref A.pa), ("ahead", .ref A.ah)]
abbrev qN (s : LS) : Nd := .dK [(.inr "up", tI s.qu), (.inr "down", tI s.qd)]
def stD (K : PySem.W.Frag) (s : LS) : D := .tup [.str (wayS s.up), .lst (s.shown.map D.int), .dct [.inr "up", .inr "down"] [tI s.qu, tI s.qd], .dct ((kT s.sl).map (·.1)) ((kT s.sl).map (·.2)), .dct ((kT s.cl).map (·.1)) ((kT s.cl).map (·.2)), bkD K s.len s.bk, phD K s.ph, .lst (s.told.map D.str)]
def lnodes (K : PySem.W.Frag) (A : LA) (L : LL) : List (Addr × Nd) := [(A.p, .ins (lnC K) (lnF A L.s)), (A.sh, .lst (L.s.shown.map D.int)), (A.qs, qN L.s), (A.sl, .dK (kT L.s.sl)), (A.cl, .dK (kT L.s.cl)), (A.to, .lst (L.s.told.map D.str)), (A.pa, .lst (L.past.map (stD K))), (A.ah, .lst (L.ahead.map (stD K))),
  (A.b.bk, .ins (bksC K) (bksF L.s.len A.b.wr A.b.gn)), (A.b.wr, wrN A.b), (A.b.gn, .dT (L.s.bk.gone.map gnK)), (A.b.wu, .lst (L.s.bk.wu.map tI)), (A.b.wd, .lst (L.s.bk.wd.map tI)), (A.h.ph, .ins (bkC K) (bkF A.h.bp A.h.bw)), (A.h.bp, .dT (L.s.ph.map plK)), (A.h.bw, .dK (L.s.ph.map wdK))]
abbrev LnAt (K : PySem.W.Frag) (w : Wd) (A : LA) (L : LL) : Prop := AllAt w (lnodes K A L)
def LA.all (A : LA) : List Addr := [A.p, A.sh, A.qs, A.sl, A.cl, A.to, A.pa, A.ah, A.b.bk, A.b.wr, A.b.gn, A.b.wu, A.b.wd, A.h.ph, A.h.bp, A.h.bw]
theorem lnkeys {K : PySem.W.Frag} {A : LA} {L : LL} : (lnodes K A L).map (·.1) = A.all := rfl
def LL.new (m : Int) : LL := ⟨⟨m, true, List.replicate m.toNat 0, [], [], [], [], Bks.new m, [], []⟩, [], []⟩
theorem LnAt.bk {K : PySem.W.Frag} {w : Wd} {A : LA} {L : LL} (h : LnAt K w A L) : BkAt K w A.b L.s.len L.s.bk :=
  ⟨(show A.all.Nodup from h.nd).sublist ((List.take_sublist 5 (A.all.drop 8)).trans (List.drop_sublist 8 A.all)), h.at 8, h.at 9, h.at 10, h.at 11, h.at 12⟩
theorem LnAt.ph {K : PySem.W.Frag} {w : Wd} {A : LA} {L : LL} (h : LnAt K w A L) : PhAt K w A.h L.s.ph := h.sub (List.drop_sublist 13 (lnodes K A L))
/-- a step of the line: what is not its own stands -/
structure LStep (K : PySem.W.Frag) (w : Wd) (A : LA) (w1 : Wd) (A1 : LA) (L1 : LL) : Prop where
  p : A1.p = A.p
  at' : LnAt K w1 A1 L1
  fr : ∀ a n, w a = some n → a ∉ A.all → w1 a = some n
  nw : ∀ a ∈ A1.all, a ∈ A.all ∨ w a = none
theorem LStep.refl {K : PySem.W.Frag} {w : Wd} {A : LA} {L : LL} (h : LnAt K w A L) : LStep K w A w A L := ⟨rfl, h, fun _ _ h _ => h, fun _ h => .inl h⟩
theorem LStep.trans {K : PySem.W.Frag} {w w1 w2 : Wd} {A A1 A2 : LA} {L1 L2 : LL} (a : LStep K w A w1 A1 L1) (b : LStep K w1 A1 w2 A2 L2) : LStep K w A w2 A2 L2 :=
  ⟨b.p.trans a.p, b.at', fun x n h hx => b.fr x n (a.fr x n h hx) fun z => (a.nw x z).elim hx fun e => (by rw [e] at h; cases h),
   fun x hx => (b.nw x hx).elim (a.nw x) fun e => by
    by_cases hA : x ∈ A.all
    · exact .inl hA
    · refine .inr ?_
      cases e2 : w x with
      | none => rfl
      | some n => rw [a.fr x n e2 hA] at e; cases e⟩
/-- one of the line's nodes changes -/
theorem LnAt.step {K : PySem.W.Frag} {w : Wd} {A : LA} {L L1 : LL} (h : LnAt K w A L) (i : Nat) {a : Addr} {m n : Nd} (hi : (lnodes K A L)[i]? = some (a, m)) (e : (lnodes K A L).set i (a, n) = lnodes K A L1) : LStep K w A (put w a n) A L1 :=
  ⟨rfl, by show AllAt _ (lnodes K A L1); rw [← e]; exact h.put i hi, fun x k hx hn => by
    have ne : x ≠ a := fun z => hn (by rw [z]; exact AllAt.key i hi)
    rw [put_ne ne]; exact hx, fun x hx => .inl hx⟩
theorem LStep.garb {K : PySem.W.Frag} {w : Wd} {A : LA} {L : LL} {q : Addr} {n : Nd} (h : LnAt K w A L) (hq : w q = none) : LStep K w A (put w q n) A L :=
  ⟨rfl, h.putN (h.new hq), fun x k hx _ => by rw [put_ne (ne_new hx hq)]; exact hx, fun x hx => .inl hx⟩
def sp_check_masts (K : PySem.W.Frag) : DSp := fun ds w Q E => ∃ m : Int, ds = [.int m] ∧ if 2 ≤ m ∧ m ≤ 12 then Q .non w else E (cls K "BadCount") none w
theorem isMast_iff {m k : Int} : (isMast m k = true) = (0 ≤ k ∧ k < m) := by
  unfold isMast; rw [Bool.and_eq_true, decide_eq_true_eq, decide_eq_true_eq]
def sp_Line_init (K : PySem.W.Frag) : DSp := fun ds w Q E => ∃ (q : Addr) (m : Int), ds = [.ref q, .int m] ∧ w q = some (.ins (lnC K) []) ∧ if 2 ≤ m ∧ m ≤ 12 then ∀ (w1 : Wd) (A : LA), A.p = q → LnAt K w1 A (LL.new m) → Gro (rid w q) w1 A.all → Q .non w1 else E (cls K "BadCount") none w
/-- what copying asks for -/
structure LCp (s : LS) : Prop where
  l0 : 0 ≤ s.len
  l1 : s.len ≤ 1000
  hg : HashApart ((s.bk.gone.map gnK).map (·.1))
  hp : HashApart ((s.ph.map plK).map (·.1))
def sp_Line_state (K : PySem.W.Frag) : DSp := fun ds w Q _ => ∃ (A : LA) (L : LL), ds = [.ref A.p] ∧ LnAt K w A L ∧ LCp L.s ∧ Q (stD K L.s) w
def partT : D → Option Str
  | .int i => if i.natAbs.log2 < 1920 then some (toString i) else none
  | .str a => some a
  | _ => none
def deedT (ds : List D) (ts : List Str) : Prop := ds.length = ts.length ∧ ∀ (i : Nat) (d : D), ds[i]? = some d → partT d = ts[i]?
def sp_deed_text : DSp := fun ds w Q _ => ∃ (xs : List D) (ts : List Str), ds = [.tup xs] ∧ deedT xs ts ∧ (ts.map (·.length)).sum + ts.length * 1 ≤ 16777216 ∧ ts.length ≤ 100000 ∧ Q (.str (Txt.join " " ts)) w
def LL.kept (L : LL) (t : Str) : LL := ⟨{ L.s with told := L.s.told ++ [t] }, L.past ++ [L.s], []⟩
def sp_Line_keep (K : PySem.W.Frag) : DSp := fun ds w Q _ => ∃ (A : LA) (L : LL) (xs : List D) (ts : List Str), ds = [.ref A.p, .tup xs] ∧ deedT xs ts ∧ (ts.map (·.length)).sum + ts.length * 1 ≤ 16777216 ∧ ts.length ≤ 100000 ∧ LnAt K w A L ∧ LCp L.s ∧ L.past.length < 100000 ∧ L.s.told.length < 100000 ∧
  ∀ w1 A1, LStep K w A w1 A1 (L.kept (Txt.join " " ts)) → A1.b = A.b → A1.h = A.h → Q .non w1
def t_check_masts (K : PySem.W.Frag) (E : DX) : DS :=
  let W' : DWX := fun c d _ w => E c d w
  (dIf (dOr (dB (dOp ltD (dVar 0) (dC (.int 2)))) (dB (dOp gtD (dVar 0) (dC (.int 12))))) (dRaise (cls K "BadCount") W') dNext)
def t_Phrasebook_copied (K : PySem.W.Frag) (E : DX) : DS :=
  let W' : DWX := fun c d _ w => E c d w
  (dSeq (dAsg (dMake (He.ga K "Phrasebook") (sp_Phrasebook_init K) W' dNil) 1) (dSeq (dFldS (He.ga K "Phrasebook") "by_place" (dVar 1) (dCB (copyT true) (dCons (dFld (He.ga K "Phrasebook") "by_place" (dVar 0)) dNil))) (dSeq (dFldS (He.ga K "Phrasebook") "by_word" (dVar 1) (dCB (copyK true) (dCons (dFld (He.ga K "Phrasebook") "by_word" (dVar 0)) dNil))) (dRet (dVar 1)))))
def t_deed_text (E : DX) : DS :=
  let W' : DWX := fun c d _ w => E c d w
  (dRet (dBM "str" joinD (dC (.str " ")) (dCons (dLc (diT (dVar 0)) (.one 1) dYes (dCB strD (dCons (dVar 1) dNil))) dNil)))
def t_Line_init (K : PySem.W.Frag) (E : DX) : DS :=
  let W' : DWX := fun c d _ w => E c d w
  (dSeq (dDrop (dCall ((sp_check_masts K)) W' (dCons (dVar 1) dNil))) (dSeq (dFldS (He.ga K "Line") "length" (dVar 0) (dVar 1)) (dSeq (dFldS (He.ga K "Line") "going" (dVar 0) (dC (.str "up"))) (dSeq (dFldS (He.ga K "Line") "shown" (dVar 0) (dOp mulDO (dLst (dCons (dC (.int 0)) dNil)) (dVar 1))) (dSeq (dFldS (He.ga K "Line") "queues" (dVar 0) (dDisp ["up", "down"] (dCons (dTup dNil) (dCons (dTup dNil) dNil)))) (dSeq (dFldS (He.ga K "Line") "sleepers" (dVar 0) dNewK) (dSeq (dFldS (He.ga K "Line") "clouds" (dVar 0) dNewK) (dSeq (dFldS (He.ga K "Line") "books" (dVar 0) (dMake (He.ga K "Books") (sp_Books_init K) W' (dCons (dVar 1) dNil))) (dSeq (dFldS (He.ga K "Line") "phrases" (dVar 0) (dMake (He.ga K "Phrasebook") (sp_Phrasebook_init K) W' dNil)) (dSeq (dFldS (He.ga K "Line") "told" (dVar 0) (dLstO dNil)) (dSeq (dFldS (He.ga K "Line") "past" (dVar 0) (dLstO dNil)) (dFldS (He.ga K "Line") "ahead" (dVar 0) (dLstO dNil)))))))))))))
def t_Line_state (K : PySem.W.Frag) (E : DX) : DS :=
  let W' : DWX := fun c d _ w => E c d w
  (dSeq (dAsg (dTup (dCons (dFld (He.ga K "Line") "going" (dVar 0)) (dCons (dCB (listD false) (dCons (dFld (He.ga K "Line") "shown" (dVar 0)) dNil)) (dCons (dCB (copyK false) (dCons (dFld (He.ga K "Line") "queues" (dVar 0)) dNil)) (dCons (dCB (copyK false) (dCons (dFld (He.ga K "Line") "sleepers" (dVar 0)) dNil)) (dCons (dCB (copyK false) (dCons (dFld (He.ga K "Line") "clouds" (dVar 0)) dNil)) dNil)))))) 1) (dRet (dOp addD (dVar 1) (dTup (dCons (dFz (dMeth (He.ga K "Books") "copied" (sp_Books_copied K) W' (dFld (He.ga K "Line") "books" (dVar 0)) dNil)) (dCons (dFz (dMeth (He.ga K "Phrasebook") "copied" (sp_Phrasebook_copied K) W' (dFld (He.ga K "Line") "phrases" (dVar 0)) dNil)) (dCons (dCB (listD false) (dCons (dFld (He.ga K "Line") "told" (dVar 0)) dNil)) dNil)))))))
def t_Line_keep (K : PySem.W.Frag) (E : DX) : DS :=
  let W' : DWX := fun c d _ w => E c d w
  (dSeq (dDrop (dBM "list" appD (dFld (He.ga K "Line") "past" (dVar 0)) (dCons (dMeth (He.ga K "Line") "state" (sp_Line_state K) W' (dVar 0) dNil) dNil))) (dSeq (dFldS (He.ga K "Line") "ahead" (dVar 0) (dLstO dNil)) (dDrop (dBM "list" appD (dFld (He.ga K "Line") "told" (dVar 0)) (dCons (dCall sp_deed_text W' (dCons (dVar 1) dNil)) dNil)))))
theorem red_check_masts {K : PySem.W.Frag} : ∀ ds w Q E, sp_check_masts K ds w Q E → t_check_masts K E { nx := fun _ w1 => Q .non w1, rt := Q } (startD ["masts"] ds) w := by
  rintro ds w Q E ⟨m, rfl, h⟩
  unfold t_check_masts dRaise
  walk_at "td"
  split at h <;> rename_i hm
  · rw [if_neg (by omega), if_neg (by omega)]; exact h
  · by_cases h1 : m < 2
    · rw [if_pos h1]; exact h
    · rw [if_neg h1, if_pos (by omega)]; exact h
theorem red_Phrasebook_copied {K : PySem.W.Frag} : ∀ ds w Q E, sp_Phrasebook_copied K ds w Q E → t_Phrasebook_copied K E { nx := fun _ w1 => Q .non w1, rt := Q } (startD ["self", "other"] ds) w := by
  rintro ds w Q E ⟨P, bk, rfl, hP, hap, k⟩
  have h1 : w P.ph = some (.ins (bkC K) (bkF P.bp P.bw)) := hP.at 0
  have h2 : w P.bp = some (.dT (bk.map plK)) := hP.at 1
  have h3 : w P.bw = some (.dK (bk.map wdK)) := hP.at 2
  unfold t_Phrasebook_copied
  walk_at "ls"
  intro p hp
  refine ⟨p, rfl, put_same, fun a b ha hb hab => ⟨rfl, ?_⟩⟩
  simp only [put_eqn] at ha hb
  have x1 := ne_new h1 hp
  have x2 := ne_new h2 hp
  have x3 := ne_new h3 hp
  have x4 := ne_new h1 ha.2
  have x5 := ne_new h2 ha.2
  have x6 := ne_new h3 ha.2
  have x7 := ne_new h1 hb.2
  have x8 := ne_new h2 hb.2
  have x9 := ne_new h3 hb.2
  walk_at "ls"
  intro q1 hq1
  simp only [put_eqn] at hq1
  have vq1 : w q1 = none := by simp only [hq1]
  have y1 := ne_new h1 vq1
  have y3 := ne_new h3 vq1
  walk_at "ls"
  intro q2 hq2
  simp only [put_eqn] at hq2
  walk_at "ls"
  refine k _ ⟨p, q1, q2⟩ ⟨?_, ?_⟩ ⟨fun a n h => ?_, ?_⟩
  · show ([p, q1, q2] : List Addr).Nodup
    simp only [List.nodup_cons, List.mem_cons, List.not_mem_nil, or_false, not_or]; grind
  · intro x hx
    unfold pnodes at hx
    simp only [List.mem_cons, List.not_mem_nil, or_false] at hx
    rcases hx with rfl | rfl | rfl
    · walk_at "fin"
    · walk_at "fin"
    · walk_at "fin"
  · have z1 := ne_new h hp
    have z2 := ne_new h ha.2
    have z3 := ne_new h hb.2
    have vq2 : w q2 = none := by simp only [hq2]
    have z4 := ne_new h vq1
    have z5 := ne_new h vq2
    walk_at "fin"
  · grind
theorem ph_fz {K : PySem.W.Frag} {w w1 : Wd} {P : PhA} {bk : List Ent} (h : PhAt K w1 P bk) (g : Gro w w1 P.all) : ∃ w2, Fz w1 (.ref P.ph) (phD K bk) w2 ∧ ∀ a n, w a = some n → w2 a = some n := by
  obtain ⟨g1, f1⟩ := g
  have nd : ([P.ph, P.bp, P.bw] : List Addr).Nodup := h.nd
  have b1 : w1 P.ph = some (.ins (bkC K) (bkF P.bp P.bw)) := h.at 0
  have b2 : w1 P.bp = some (.dT (bk.map plK)) := h.at 1
  have b3 : w1 P.bw = some (.dK (bk.map wdK)) := h.at 2
  simp only [List.nodup_cons, List.mem_cons, List.not_mem_nil, or_false, not_or] at nd
  refine ⟨rid (rid (rid w1 P.ph) P.bp) P.bw, ?_, fun a n ha => ?_⟩
  · refine Fz.ins b1 (.cons (Fz.dT (kvs := bk.map plK) ?_ (fzl_keep _)) (.cons (Fz.dK (kvs := bk.map wdK) ?_ (fzl_keep _)) .nil))
    · grind [rid]
    · grind [rid]
  · have h1 := g1 a n ha
    have h2 : a ∉ P.all := fun z => by rw [f1 a z] at ha; cases ha
    simp only [PhA.all, List.mem_cons, List.not_mem_nil, or_false, not_or] at h2
    grind [rid]
theorem red_deed_text : ∀ ds w Q E, sp_deed_text ds w Q E → t_deed_text E { nx := fun _ w1 => Q .non w1, rt := Q } (startD ["deed", "part"] ds) w := by
  rintro ds w Q E ⟨xs, ts, rfl, ⟨hl, ht⟩, hs, hn, q⟩
  unfold t_deed_text
  walk_at "td"
  refine ⟨dTy_s, ?_⟩
  have hp : ∀ d ∈ xs, ∃ t, partT d = some t := fun d hd => by
    obtain ⟨i, hi⟩ := List.getElem?_of_mem hd
    have hlt : i < ts.length := by rw [← hl]; exact (List.getElem?_eq_some_iff.mp hi).1
    exact ⟨ts[i], by rw [ht i d hi, List.getElem?_eq_getElem hlt]⟩
  refine dLc_tf (xs := xs) (c := fun _ => true) (f := fun d => .str ((partT d).getD "")) (fun R h => h) (by omega) (fun d hd => ⟨evt_yes, fun _ R r => ?_⟩) ?_
  · obtain ⟨t, e⟩ := hp d hd
    rw [e] at r
    walk_at "td"
    unfold partT at e
    split at e
    · split at e
      · next hlt => cases e; exact ⟨hlt, r⟩
      · cases e
    · cases e; exact r
    · cases e
  · have em : ((xs.filter fun _ => true).map fun d => D.str ((partT d).getD "")) = ts.map D.str := by
      rw [List.filter_eq_self.mpr (fun _ _ => rfl)]
      apply List.ext_getElem?
      intro i
      rw [List.getElem?_map, List.getElem?_map]
      cases hx : xs[i]? with
      | none =>
        have : ts[i]? = none := by rw [List.getElem?_eq_none_iff] at hx ⊢; omega
        rw [this]; rfl
      | some d =>
        have := ht i d hx
        obtain ⟨t, e⟩ := hp d (List.mem_of_getElem? hx)
        rw [← this, e, Option.map_some, Option.map_some, e]; rfl
    rw [em]
    exact joinD_l hs q
theorem red_Line_state {K : PySem.W.Frag} : ∀ ds w Q E, sp_Line_state K ds w Q E → t_Line_state K E { nx := fun _ w1 => Q .non w1, rt := Q } (startD ["self", "still"] ds) w := by
  rintro ds w Q E ⟨A, L, rfl, hL, hc, q⟩
  have h0 : w A.p = some (.ins (lnC K) (lnF A L.s)) := hL.at 0
  have h1 : w A.sh = some (.lst (L.s.shown.map D.int)) := hL.at 1
  have h2 : w A.qs = some (qN L.s) := hL.at 2
  have h3 : w A.sl = some (.dK (kT L.s.sl)) := hL.at 3
  have h4 : w A.cl = some (.dK (kT L.s.cl)) := hL.at 4
  have h5 : w A.to = some (.lst (L.s.told.map D.str)) := hL.at 5
  have h8 : w A.b.bk = some (.ins (bksC K) (bksF L.s.len A.b.wr A.b.gn)) := hL.at 8
  have h13 : w A.h.ph = some (.ins (bkC K) (bkF A.h.bp A.h.bw)) := hL.at 13
  unfold t_Line_state
  walk_at "ls"
  unfold dFz
  walk_at "ls"
  refine ⟨A.b, L.s.len, L.s.bk, rfl, hc.l0, hc.l1, hL.bk, hc.hg, fun w1 B1 hB1 g1 => ?_⟩
  obtain ⟨w2, hz, hw⟩ := bk_fz hB1 g1
  refine ⟨_, w2, w, hz, hw, ?_⟩
  walk_at "ls"
  refine ⟨A.h, L.s.ph, rfl, hL.ph, hc.hp, fun w1 P1 hP1 g1 => ?_⟩
  obtain ⟨w2, hz, hw⟩ := ph_fz hP1 g1
  refine ⟨_, w2, w, hz, hw, ?_⟩
  walk_at "ls"
  exact q
theorem red_Line_keep {K : PySem.W.Frag} : ∀ ds w Q E, sp_Line_keep K ds w Q E → t_Line_keep K E { nx := fun _ w1 => Q .non w1, rt := Q } (startD ["self", "deed"] ds) w := by
  rintro ds w Q E ⟨A, L, xs, ts, rfl, hT, hs, hn, hL, hc, l1, l2, q⟩
  have h0 : w A.p = some (.ins (lnC K) (lnF A L.s)) := hL.at 0
  have h6 : w A.pa = some (.lst (L.past.map (stD K))) := hL.at 6
  unfold t_Line_keep
  walk_at "ls"
  refine ⟨dTy_w h6, A, L, rfl, hL, hc, ?_⟩
  walk_at "ls"
  refine ⟨smallL (by rw [List.length_map]; omega), ?_⟩
  have s1 : LStep K w A (put w A.pa (.lst (L.past.map (stD K) ++ [stD K L.s]))) A ⟨L.s, L.past ++ [L.s], L.ahead⟩ := hL.step 6 rfl (by unfold lnodes; rw [List.map_append]; rfl)
  intro q1 hq1
  have a1 := s1.at'
  have hq2 := a1.new hq1
  have s2 : LStep K (put w A.pa (.lst (L.past.map (stD K) ++ [stD K L.s]))) A (put (put (put w A.pa (.lst (L.past.map (stD K) ++ [stD K L.s]))) q1 (.lst [])) A.p (.ins (lnC K) (lnF { A with ah := q1 } L.s))) { A with ah := q1 } ⟨L.s, L.past ++ [L.s], []⟩ := by
    have b1 := a1.repl (n := .lst []) 7 hq2 (by show 7 < 16; decide)
    have b2 := b1.put (n := .ins (lnC K) (lnF { A with ah := q1 } L.s)) 0
    refine ⟨rfl, b2, fun x n hx hA => ?_, fun x hx => ?_⟩
    · have n1 : x ≠ A.p := fun z => hA (by rw [z]; exact List.mem_cons_self)
      rw [put_ne n1, put_ne (ne_new hx hq1)]; exact hx
    · by_cases e : x = q1
      · exact .inr (by rw [e]; exact hq1)
      · refine .inl ?_
        revert hx
        unfold LA.all
        simp only [List.mem_cons, List.not_mem_nil, or_false]
        grind
  have s3 := s1.trans s2
  have np : A.p ≠ A.pa := fun z => by
    have := hL.at 6 (a := A.pa)
    rw [← z, h0] at this; cases this
  have nq : A.p ≠ q1 := fun z => hq2 (by rw [← z]; exact List.mem_cons_self)
  walk_at "ls"
  have h5 : (put (put (put w A.pa (.lst (L.past.map (stD K) ++ [stD K L.s]))) q1 (.lst [])) A.p (.ins (lnC K) (lnF { A with ah := q1 } L.s))) A.to = some (.lst (L.s.told.map D.str)) := s3.at'.at 5
  refine ⟨dTy_w h5, xs, ts, rfl, hT, hs, hn, ?_⟩
  refine Eq.mpr (atLd_at h5) ?_
  refine ⟨smallL (by rw [List.length_map]; omega), ?_⟩
  have e : L.s.told.map D.str ++ [.str (Txt.join " " ts)] = (L.s.told ++ [Txt.join " " ts]).map D.str := by rw [List.map_append]; rfl
  rw [e]
  have s4 := s3.at'.step (L1 := L.kept (Txt.join " " ts)) (n := .lst ((L.s.told ++ [Txt.join " " ts]).map D.str)) 5 rfl rfl
  exact q _ _ (s3.trans s4) rfl rfl
end TD

set_option maxHeartbeats 4000000
namespace TD
open PySem PySem.Spec PyProof.Rows L2
local macro_rules | `(tactic| walk_at "td") => `(tactic| simp only [dSeq, dIf, dB, dOp, dUn, dCB, dVar, dC, dRet, dRetN, dNext, dDrop, dAsg, dAnd, dOr, dNot, dAndV, dOrV, dNotV, dIfE, dChain, dCons, dNil, dTup, dLst, dLstO, dCall, dSl, dPart, dNoPart, dBM, dBM0, dAug, dAsgG, dgName, dgTup, setAll, dCont, dBreak,
  addD_ii, addD_ss, addD_tt, addD_ll, subD_ii, mulD_ii, mulD_li, fdivD_ii, modD_ii, powD_ii, negD_i, ltD_ii, leD_ii, gtD_ii, geD_ii, eqD_ii, eqD_ss, eqD_bb, eqD_nn, eqD_ni, eqD_in, isN_x, isNon_non, isNon_int, isNon_str, isNon_bl, isNon_lst, isNon_tup, isNon_ref, lenD_l, lenD_r, lenD_t, lenD_s, slD_l, slD_t, slD_s, listD_l, listD_r, listD_t, listD_lO, listD_tO, tupleD_l, tupleD_t, sumD_l, allD_l, maxD_ii, minD_ii, absD_i, atSeq_l, atSeq_r, wipeD, dTy_put, app_put, true_and, and_true, dFrz, put_same, Option.bind_some, frzD_lst,
  startD, List.map_cons, List.map_nil, List.cons_append, List.nil_append, List.length_cons, List.length_nil, List.getElem?_cons_zero, List.getElem?_cons_succ, List.set_cons_zero, List.set_cons_succ, List.replicate_succ, List.replicate_zero, List.append_nil, Nat.reduceAdd, Nat.reduceSub, Int.reduceToNat, decide_eq_true_eq, Bool.false_bne, Bool.true_bne, Bool.not_eq_true', Bool.not_eq_true, decide_eq_false_iff_not, Bool.false_eq_true, Bool.true_eq_false, if_true, if_false, ite_true, ite_false, reduceIte])
local macro_rules | `(tactic| walk_at "leaf") => `(tactic| (intro Q q; first | exact q | exact ⟨by omega, q⟩ | exact ⟨⟨by omega, by omega⟩, q⟩ | exact ⟨.inl ⟨by omega, by omega⟩, q⟩ | exact ⟨.inr ⟨by omega, by omega⟩, q⟩ | (rw [ixD_l (atI_ints (by first | omega | grind) (by first | omega | grind))]; exact q) | (rw [inD_lst rfl (all_ints _), inL_ints]; exact q) | (rw [lenD_l, List.length_map]; exact q) | (rw [lenD_r, List.length_map]; exact q)))
local macro_rules | `(tactic| walk_at "ev") => `(tactic| repeat' (first | exact eve_var rfl | exact eve_c | exact eva_nil | apply evt_and | apply evt_or | apply evt_not | apply evt_B | apply eva_cons | apply eve_and | apply eve_or | apply eve_not | apply eve_chain | apply eve_op | apply eve_un | apply eve_cb | (refine Gd.mk (fun _ => ?_)) | (refine Gn.mk (fun _ => ?_)) | walk_at "leaf"))
local macro_rules | `(tactic| walk_at "bl") => `(tactic| simp only [Bool.false_bne, Bool.true_bne, Bool.and_eq_true, Bool.or_eq_true, Bool.and_eq_false_iff, Bool.or_eq_false_iff, Bool.not_eq_true', Bool.not_eq_false', Bool.not_not, decide_eq_true_eq, decide_eq_false_iff_not] at *)
local macro_rules | `(tactic| walk_at "ls") => `(tactic| try simp (config := {decide := true}) only [dSeq, dIf, dB, dOp, dUn, dCB, dVar, dC, dRet, dRetN, dNext, dDrop, dAsg, dAnd, dOr, dNot, dAndV, dOrV, dNotV, dIfE, dChain, dCons, dNil, dTup, dLst, dLstO, dCall, dSl, dPart, dNoPart, dBM, dBM0, dAug, dAsgG, dgName, dgTup, setAll, dCont, dBreak,
  addD_ii, addD_ss, addD_tt, addD_ll, subD_ii, mulD_ii, mulD_li, fdivD_ii, modD_ii, powD_ii, negD_i, ltD_ii, leD_ii, gtD_ii, geD_ii, eqD_ii, eqD_ss, eqD_bb, eqD_nn, eqD_ni, eqD_in, isN_x, isNon_non, isNon_int, isNon_str, isNon_bl, isNon_lst, isNon_tup, isNon_ref, lenD_l, lenD_r, lenD_t, lenD_s, slD_l, slD_t, slD_s, listD_l, listD_r, listD_t, listD_lO, listD_tO, tupleD_l, tupleD_t, sumD_l, allD_l, maxD_ii, minD_ii, absD_i, atSeq_l, atSeq_r, wipeD, dTy_put, app_put, true_and, and_true, dFrz, put_same, Option.bind_some, frzD_lst,
  startD, List.map_cons, List.map_nil, List.cons_append, List.nil_append, List.length_cons, List.length_nil, List.getElem?_cons_zero, List.getElem?_cons_succ, List.set_cons_zero, List.set_cons_succ, List.replicate_succ, List.replicate_zero, List.append_nil, Nat.reduceAdd, Nat.reduceSub, Int.reduceToNat, decide_eq_true_eq, Bool.false_bne, Bool.true_bne, Bool.not_eq_true', Bool.not_eq_true, decide_eq_false_iff_not, Bool.false_eq_true, Bool.true_eq_false, if_true, if_false, ite_true, ite_false, reduceIte,
  atO_q, insK_s, getF_hd, getF_tl, putD_nil, putD_hd, putD_tl, look_hd, look_tl, look_nil, put_same, put_put, put_ne, put_en, ne_eq, not_false_eq_true, not_true_eq_false, true_and, and_true, dFld, dFldS, dNewK, dNewT, dMeth, dMake, dSetK, dPopK, dGet1, ixD_ref, ixNd_l, ixNd_ks, ixNd_ki, ixNd_t1, ixNd_t2, ixNd_t3, inD_ref, inNd_ks, inNd_ki, inNd_t2, inNd_t3, lenD_ref, lenNd_l, lenNd_k, listD_ref, lisNd_l, lisNd_o, tupleD_ref, tupNd_l, appD_1, popD_0, clrD_0, atL_ref, atLd_l, dPutAt_ref, putNd_ks, putNd_ki, putNd_t1, putNd_t2, putNd_t3, dPopAt_ref, popNd_ki, popNd_ks, popNd_t2, popNd_t3, isDc_ref, isDn_k, isDn_t, copyK_q, copyT_q, copNd_o, copNd_f, cotNd_o, cotNd_f, sortN_q, srtNd_k, sortNO_q, sroNd_k, addD_wl, lstOf_l, inD_tup, inL_nl, inL_sc, inNd_li, intD_b, decide_true, decide_false, Bool.true_or, Bool.false_or, Bool.or_false, Bool.or_true, Bool.not_true, Bool.not_false, Bool.true_and, Bool.and_true, Bool.false_and, Bool.and_false, remD_1, mulDO_li, ixT_0, ixT_1, ixT_2, ixT_3, ixL_0, ixL_1, ixL_2, ixL_3, valD_hd, valD_tl, valD_nil, setK_nil, setK_1, setK_20, setK_21, setK_30, setK_31, setK_32, optD_s, Option.isSome_some, Option.isSome_none, *])
local macro_rules | `(tactic| walk_at "fin") => `(tactic| simp (config := {decide := true}) only [put_same, put_ne, put_en, rid_same, rid_en, put_eqn, ne_eq, not_false_eq_true, not_true_eq_false, true_and, and_true, and_self, implies_true, List.forall_mem_cons, List.not_mem_nil, false_implies, List.nodup_cons, List.mem_cons, or_false, or_self, List.nodup_nil, *])
theorem grow_rid {w w1 : Wd} {p : Addr} {n : Nd} (hp : w p = none) (g : ∀ a m, rid (put w p n) p a = some m → w1 a = some m) : ∀ a m, w a = some m → w1 a = some m := by
  rw [rid_put hp] at g; exact g
theorem red_Line_init {K : PySem.W.Frag} : ∀ ds w Q E, sp_Line_init K ds w Q E → t_Line_init K E { nx := fun _ w1 => Q .non w1, rt := Q } (startD ["self", "masts"] ds) w := by
  rintro ds w Q E ⟨p, m, rfl, hp, q⟩
  unfold t_Line_init
  walk_at "td"
  refine ⟨m, rfl, ?_⟩
  split at q
  · rename_i hm
    rw [if_pos hm]
    walk_at "ls"
    refine ⟨by omega, by omega, small (by show 1 * m.toNat ≤ _; omega), ?_⟩
    intro sh hsh
    simp only [put_eqn] at hsh
    walk_at "ls"
    unfold dDisp
    walk_at "ls"
    intro qs hqs
    simp only [put_eqn] at hqs
    walk_at "ls"
    intro sl hsl
    simp only [put_eqn] at hsl
    walk_at "ls"
    intro cl hcl
    simp only [put_eqn] at hcl
    walk_at "ls"
    intro bk hbk
    simp only [put_eqn] at hbk
    refine ⟨bk, m, rfl, by omega, by omega, put_same, fun w5 B eB hB gB => ⟨rfl, ?_⟩⟩
    subst eB
    obtain ⟨g5, f5⟩ := gB
    have g6 := grow_rid (by simp only [put_eqn]; exact hbk) g5
    have ws : w sh = none := by simp only [hsh]
    have wq : w qs = none := by simp only [hqs]
    have wl : w sl = none := by simp only [hsl]
    have wc : w cl = none := by simp only [hcl]
    have fr : ∀ a n, w a = some n → a ≠ p → w5 a = some n := fun a n ha hap => g6 a n (by
      have z1 := ne_new ha ws
      have z2 := ne_new ha wq
      have z3 := ne_new ha wl
      have z4 := ne_new ha wc
      walk_at "fin")
    rw [rid_put (by simp only [put_eqn]; exact hbk)] at f5
    simp only [put_eqn] at f5
    clear g5
    have c0 : w5 p = some (.ins (lnC K) [("length", .int m), ("going", .str "up"), ("shown", .ref sh), ("queues", .ref qs), ("sleepers", .ref sl), ("clouds", .ref cl)]) := g6 p _ (by walk_at "fin")
    have c1 : w5 sh = some (.lst (List.replicate m.toNat [D.int 0]).flatten) := g6 sh _ (by walk_at "fin")
    have c2 : w5 qs = some (.dK [(.inr "up", .tup []), (.inr "down", .tup [])]) := g6 qs _ (by walk_at "fin"; rfl)
    have c3 : w5 sl = some (.dK []) := g6 sl _ (by walk_at "fin")
    have c4 : w5 cl = some (.dK []) := g6 cl _ (by walk_at "fin")
    have d1 := hB.bk
    have d2 := hB.wr
    have d3 := hB.gn
    have d4 := hB.wu
    have d5 := hB.wd
    walk_at "ls"
    intro ph hph
    simp only [put_eqn] at hph
    refine ⟨ph, rfl, put_same, fun bp bw hbp hbw hne => ⟨rfl, ?_⟩⟩
    simp only [put_eqn] at hbp hbw
    walk_at "ls"
    intro to hto
    simp only [put_eqn] at hto
    walk_at "ls"
    intro pa hpa
    simp only [put_eqn] at hpa
    walk_at "ls"
    intro ah hah
    simp only [put_eqn] at hah
    walk_at "ls"
    have vph : w5 ph = none := by simp only [hph]
    have vbp : w5 bp = none := by simp only [hbp]
    have vbw : w5 bw = none := by simp only [hbw]
    have vto : w5 to = none := by simp only [hto]
    have vpa : w5 pa = none := by simp only [hpa]
    have vah : w5 ah = none := by simp only [hah]
    have e_ph_c1 := ne_new c1 vph
    have e_ph_c2 := ne_new c2 vph
    have e_ph_c3 := ne_new c3 vph
    have e_ph_c4 := ne_new c4 vph
    have e_ph_d1 := ne_new d1 vph
    have e_ph_d2 := ne_new d2 vph
    have e_ph_d3 := ne_new d3 vph
    have e_ph_d4 := ne_new d4 vph
    have e_ph_d5 := ne_new d5 vph
    have e_bp_c1 := ne_new c1 vbp
    have e_bp_c2 := ne_new c2 vbp
    have e_bp_c3 := ne_new c3 vbp
    have e_bp_c4 := ne_new c4 vbp
    have e_bp_d1 := ne_new d1 vbp
    have e_bp_d2 := ne_new d2 vbp
    have e_bp_d3 := ne_new d3 vbp
    have e_bp_d4 := ne_new d4 vbp
    have e_bp_d5 := ne_new d5 vbp
    have e_bw_c1 := ne_new c1 vbw
    have e_bw_c2 := ne_new c2 vbw
    have e_bw_c3 := ne_new c3 vbw
    have e_bw_c4 := ne_new c4 vbw
    have e_bw_d1 := ne_new d1 vbw
    have e_bw_d2 := ne_new d2 vbw
    have e_bw_d3 := ne_new d3 vbw
    have e_bw_d4 := ne_new d4 vbw
    have e_bw_d5 := ne_new d5 vbw
    have e_to_c1 := ne_new c1 vto
    have e_to_c2 := ne_new c2 vto
    have e_to_c3 := ne_new c3 vto
    have e_to_c4 := ne_new c4 vto
    have e_to_d1 := ne_new d1 vto
    have e_to_d2 := ne_new d2 vto
    have e_to_d3 := ne_new d3 vto
    have e_to_d4 := ne_new d4 vto
    have e_to_d5 := ne_new d5 vto
    have e_pa_c1 := ne_new c1 vpa
    have e_pa_c2 := ne_new c2 vpa
    have e_pa_c3 := ne_new c3 vpa
    have e_pa_c4 := ne_new c4 vpa
    have e_pa_d1 := ne_new d1 vpa
    have e_pa_d2 := ne_new d2 vpa
    have e_pa_d3 := ne_new d3 vpa
    have e_pa_d4 := ne_new d4 vpa
    have e_pa_d5 := ne_new d5 vpa
    have e_ah_c1 := ne_new c1 vah
    have e_ah_c2 := ne_new c2 vah
    have e_ah_c3 := ne_new c3 vah
    have e_ah_c4 := ne_new c4 vah
    have e_ah_d1 := ne_new d1 vah
    have e_ah_d2 := ne_new d2 vah
    have e_ah_d3 := ne_new d3 vah
    have e_ah_d4 := ne_new d4 vah
    have e_ah_d5 := ne_new d5 vah
    have f_bk := f5 B.bk (by simp)
    have f_wr := f5 B.wr (by simp)
    have f_gn := f5 B.gn (by simp)
    have f_wu := f5 B.wu (by simp)
    have f_wd := f5 B.wd (by simp)
    have ndB := hB.nd
    simp only [BA.all, List.nodup_cons, List.mem_cons, List.not_mem_nil, or_false, not_or] at ndB
    have hw0 : ∀ x, w5 x = none → w x = none := fun x hx => by
      cases e : w x with
      | none => rfl
      | some n =>
        have z : x ≠ p := fun z => by rw [z, c0] at hx; cases hx
        rw [fr x n e z] at hx; cases hx
    refine q _ ⟨p, sh, qs, sl, cl, to, pa, ah, B, ⟨ph, bp, bw⟩⟩ rfl ⟨?_, ?_⟩ ⟨fun a n h => ?_, ?_⟩
    · show ([p, sh, qs, sl, cl, to, pa, ah, B.bk, B.wr, B.gn, B.wu, B.wd, ph, bp, bw] : List Addr).Nodup
      simp only [List.nodup_cons, List.mem_cons, List.not_mem_nil, or_false, not_or]
      clear fr g6 q hw0 f5
      grind
    · intro x hx
      have er : (List.replicate m.toNat [D.int 0]).flatten = (List.replicate m.toNat (0 : Int)).map D.int := by rw [rep_one, List.map_replicate]
      unfold lnodes at hx
      simp only [List.mem_cons, List.not_mem_nil, or_false] at hx
      rcases hx with rfl | rfl | rfl | rfl | rfl | rfl | rfl | rfl | rfl | rfl | rfl | rfl | rfl | rfl | rfl | rfl
      · walk_at "fin"; rfl
      · walk_at "fin"; rfl
      · walk_at "fin"; rfl
      · walk_at "fin"; rfl
      · walk_at "fin"; rfl
      · walk_at "fin"; rfl
      · walk_at "fin"; rfl
      · walk_at "fin"; rfl
      · walk_at "fin"; rfl
      · walk_at "fin"
      · walk_at "fin"; rfl
      · walk_at "fin"; rfl
      · walk_at "fin"; rfl
      · walk_at "fin"
      · walk_at "fin"; rfl
      · walk_at "fin"; rfl
    · unfold rid at h
      split at h
      · cases h
      · rename_i hap
        have h1 := fr a n h hap
        have z_ph := ne_new h1 vph
        have z_bp := ne_new h1 vbp
        have z_bw := ne_new h1 vbw
        have z_to := ne_new h1 vto
        have z_pa := ne_new h1 vpa
        have z_ah := ne_new h1 vah
        walk_at "fin"
    · have k1 : ∀ x, w x = none → rid w p x = none := fun x hx => by unfold rid; split <;> first | rfl | exact hx
      intro a ha
      show rid w p a = none
      unfold LA.all at ha
      simp only [List.mem_cons, List.not_mem_nil, or_false] at ha
      rcases ha with rfl | rfl | rfl | rfl | rfl | rfl | rfl | rfl | rfl | rfl | rfl | rfl | rfl | rfl | rfl | rfl
      · exact rid_same
      · exact k1 _ ws
      · exact k1 _ wq
      · exact k1 _ wl
      · exact k1 _ wc
      · exact k1 _ (hw0 _ vto)
      · exact k1 _ (hw0 _ vpa)
      · exact k1 _ (hw0 _ vah)
      · exact k1 _ (by simp only [f_bk])
      · exact k1 _ (by simp only [f_wr])
      · exact k1 _ (by simp only [f_gn])
      · exact k1 _ (by simp only [f_wu])
      · exact k1 _ (by simp only [f_wd])
      · exact k1 _ (hw0 _ vph)
      · exact k1 _ (hw0 _ vbp)
      · exact k1 _ (hw0 _ vbw)
  · rename_i hm
    rw [if_neg hm]
    exact q
end TD

set_option maxHeartbeats 4000000
namespace TD
open PySem PySem.Spec PyProof.Rows L2
local macro_rules | `(tactic| walk_at "td") => `(tactic| simp only [dSeq, dIf, dB, dOp, dUn, dCB, dVar, dC, dRet, dRetN, dNext, dDrop, dAsg, dAnd, dOr, dNot, dAndV, dOrV, dNotV, dIfE, dChain, dCons, dNil, dTup, dLst, dLstO, dCall, dSl, dPart, dNoPart, dBM, dBM0, dAug, dAsgG, dgName, dgTup, setAll, dCont, dBreak,
  addD_ii, addD_ss, addD_tt, addD_ll, subD_ii, mulD_ii, mulD_li, fdivD_ii, modD_ii, powD_ii, negD_i, ltD_ii, leD_ii, gtD_ii, geD_ii, eqD_ii, eqD_ss, eqD_bb, eqD_nn, eqD_ni, eqD_in, isN_x, isNon_non, isNon_int, isNon_str, isNon_bl, isNon_lst, isNon_tup, isNon_ref, lenD_l, lenD_r, lenD_t, lenD_s, slD_l, slD_t, slD_s, listD_l, listD_r, listD_t, listD_lO, listD_tO, tupleD_l, tupleD_t, sumD_l, allD_l, maxD_ii, minD_ii, absD_i, atSeq_l, atSeq_r, wipeD, dTy_put, app_put, true_and, and_true, dFrz, put_same, Option.bind_some, frzD_lst,
  startD, List.map_cons, List.map_nil, List.cons_append, List.nil_append, List.length_cons, List.length_nil, List.getElem?_cons_zero, List.getElem?_cons_succ, List.set_cons_zero, List.set_cons_succ, List.replicate_succ, List.replicate_zero, List.append_nil, Nat.reduceAdd, Nat.reduceSub, Int.reduceToNat, decide_eq_true_eq, Bool.false_bne, Bool.true_bne, Bool.not_eq_true', Bool.not_eq_true, decide_eq_false_iff_not, Bool.false_eq_true, Bool.true_eq_false, if_true, if_false, ite_true, ite_false, reduceIte])
local macro_rules | `(tactic| walk_at "leaf") => `(tactic| (intro Q q; first | exact q | exact ⟨by omega, q⟩ | exact ⟨⟨by omega, by omega⟩, q⟩ | exact ⟨.inl ⟨by omega, by omega⟩, q⟩ | exact ⟨.inr ⟨by omega, by omega⟩, q⟩ | (rw [ixD_l (atI_ints (by first | omega | grind) (by first | omega | grind))]; exact q) | (rw [inD_lst rfl (all_ints _), inL_ints]; exact q) | (rw [lenD_l, List.length_map]; exact q) | (rw [lenD_r, List.length_map]; exact q)))
local macro_rules | `(tactic| walk_at "ev") => `(tactic| repeat' (first | exact eve_var rfl | exact eve_c | exact eva_nil | apply evt_and | apply evt_or | apply evt_not | apply evt_B | apply eva_cons | apply eve_and | apply eve_or | apply eve_not | apply eve_chain | apply eve_op | apply eve_un | apply eve_cb | (refine Gd.mk (fun _ => ?_)) | (refine Gn.mk (fun _ => ?_)) | walk_at "leaf"))
local macro_rules | `(tactic| walk_at "bl") => `(tactic| simp only [Bool.false_bne, Bool.true_bne, Bool.and_eq_true, Bool.or_eq_true, Bool.and_eq_false_iff, Bool.or_eq_false_iff, Bool.not_eq_true', Bool.not_eq_false', Bool.not_not, decide_eq_true_eq, decide_eq_false_iff_not] at *)
local macro_rules | `(tactic| walk_at "ls") => `(tactic| try simp (config := {decide := true}) only [dSeq, dIf, dB, dOp, dUn, dCB, dVar, dC, dRet, dRetN, dNext, dDrop, dAsg, dAnd, dOr, dNot, dAndV, dOrV, dNotV, dIfE, dChain, dCons, dNil, dTup, dLst, dLstO, dCall, dSl, dPart, dNoPart, dBM, dBM0, dAug, dAsgG, dgName, dgTup, setAll, dCont, dBreak,
  addD_ii, addD_ss, addD_tt, addD_ll, subD_ii, mulD_ii, mulD_li, fdivD_ii, modD_ii, powD_ii, negD_i, ltD_ii, leD_ii, gtD_ii, geD_ii, eqD_ii, eqD_ss, eqD_bb, eqD_nn, eqD_ni, eqD_in, isN_x, isNon_non, isNon_int, isNon_str, isNon_bl, isNon_lst, isNon_tup, isNon_ref, lenD_l, lenD_r, lenD_t, lenD_s, slD_l, slD_t, slD_s, listD_l, listD_r, listD_t, listD_lO, listD_tO, tupleD_l, tupleD_t, sumD_l, allD_l, maxD_ii, minD_ii, absD_i, atSeq_l, atSeq_r, wipeD, dTy_put, app_put, true_and, and_true, dFrz, put_same, Option.bind_some, frzD_lst,
  startD, List.map_cons, List.map_nil, List.cons_append, List.nil_append, List.length_cons, List.length_nil, List.getElem?_cons_zero, List.getElem?_cons_succ, List.set_cons_zero, List.set_cons_succ, List.replicate_succ, List.replicate_zero, List.append_nil, Nat.reduceAdd, Nat.reduceSub, Int.reduceToNat, decide_eq_true_eq, Bool.false_bne, Bool.true_bne, Bool.not_eq_true', Bool.not_eq_true, decide_eq_false_iff_not, Bool.false_eq_true, Bool.true_eq_false, if_true, if_false, ite_true, ite_false, reduceIte,
  atO_q, insK_s, getF_hd, getF_tl, putD_nil, putD_hd, putD_tl, look_hd, look_tl, look_nil, put_same, put_put, put_ne, put_en, ne_eq, not_false_eq_true, not_true_eq_false, true_and, and_true, dFld, dFldS, dNewK, dNewT, dMeth, dMake, dSetK, dPopK, dGet1, ixD_ref, ixNd_l, ixNd_ks, ixNd_ki, ixNd_t1, ixNd_t2, ixNd_t3, inD_ref, inNd_ks, inNd_ki, inNd_t2, inNd_t3, lenD_ref, lenNd_l, lenNd_k, listD_ref, lisNd_l, lisNd_o, tupleD_ref, tupNd_l, appD_1, popD_0, clrD_0, atL_ref, atLd_l, dPutAt_ref, putNd_ks, putNd_ki, putNd_t1, putNd_t2, putNd_t3, dPopAt_ref, popNd_ki, popNd_ks, popNd_t2, popNd_t3, isDc_ref, isDn_k, isDn_t, copyK_q, copyT_q, copNd_o, copNd_f, cotNd_o, cotNd_f, sortN_q, srtNd_k, sortNO_q, sroNd_k, addD_wl, lstOf_l, inD_tup, inL_nl, inL_sc, inNd_li, intD_b, decide_true, decide_false, Bool.true_or, Bool.false_or, Bool.or_false, Bool.or_true, Bool.not_true, Bool.not_false, Bool.true_and, Bool.and_true, Bool.false_and, Bool.and_false, remD_1, mulDO_li, ixT_0, ixT_1, ixT_2, ixT_3, ixL_0, ixL_1, ixL_2, ixL_3, valD_hd, valD_tl, valD_nil, setK_nil, setK_1, setK_20, setK_21, setK_30, setK_31, setK_32, optD_s, Option.isSome_some, Option.isSome_none, *])
local macro_rules | `(tactic| walk_at "fin") => `(tactic| simp (config := {decide := true}) only [put_same, put_ne, put_en, rid_same, rid_en, put_eqn, ne_eq, not_false_eq_true, not_true_eq_false, true_and, and_true, and_self, implies_true, List.forall_mem_cons, List.not_mem_nil, false_implies, List.nodup_cons, List.mem_cons, or_false, or_self, List.nodup_nil, *])
/-! ### deeds that change sleepers and fogs -/
structure LRoom (L : LL) : Prop where
  cp : LCp L.s
  pa : L.past.length < 100000
  to : L.s.told.length < 100000
def DPart : D → Prop
  | .int i => 0 ≤ i ∧ i < 10 ^ 10
  | .str a => a.length ≤ 1000
  | _ => False
def txtD (d : D) : Str := (partT d).getD ""
def dTx (xs : List D) : Str := Txt.join " " (xs.map txtD)
theorem log_small {i : Int} (h0 : 0 ≤ i) (h1 : i < 10 ^ 10) : i.natAbs.log2 < 1920 := by
  by_cases hz : i.natAbs = 0
  · rw [hz]; decide
  · have h2 : i.natAbs < 2 ^ 1920 := Nat.lt_of_lt_of_le (show i.natAbs < 10 ^ 10 by omega) (by decide +kernel)
    exact (Nat.log2_lt hz).mpr h2
theorem dpart_ok {d : D} (h : DPart d) : partT d = some (txtD d) ∧ (txtD d).length ≤ 1000 := by
  unfold DPart at h
  split at h
  · rename_i i
    have e : partT (.int i) = some (toString i) := by unfold partT; exact if_pos (log_small h.1 h.2)
    unfold txtD
    rw [e]
    refine ⟨rfl, ?_⟩
    have := PyProof.Rows.toString_length_le (v := i) h.1 (k := 10) (by decide) h.2
    exact Nat.le_trans this (by decide)
  · exact ⟨rfl, h⟩
  · exact h.elim
theorem sum_le {ts : List Str} (h : ∀ t ∈ ts, t.length ≤ 1000) : (ts.map (·.length)).sum ≤ 1000 * ts.length := by
  induction ts with
  | nil => simp
  | cons t r ih =>
    rw [List.map_cons, List.sum_cons, List.length_cons]
    have := h t (List.mem_cons_self ..)
    have := ih fun x hx => h x (List.mem_cons_of_mem _ hx)
    omega
theorem keep_ok {K : PySem.W.Frag} {A : LA} {L : LL} {xs : List D} {w : Wd} {Q : DKt} {E : DX} (hL : LnAt K w A L) (hr : LRoom L) (hx : ∀ d ∈ xs, DPart d) (hl : xs.length ≤ 1000) (q : ∀ w1 A1, LStep K w A w1 A1 (L.kept (dTx xs)) → A1.b = A.b → A1.h = A.h → Q .non w1) :
    sp_Line_keep K [.ref A.p, .tup xs] w Q E := by
  refine ⟨A, L, xs, xs.map txtD, rfl, ⟨(List.length_map _).symm, fun i d h => ?_⟩, ?_, by rw [List.length_map]; omega, hL, hr.cp, hr.pa, hr.to, q⟩
  · rw [List.getElem?_map, h, (dpart_ok (hx d (List.mem_of_getElem? h))).1]; rfl
  · have := sum_le (ts := xs.map txtD) fun t ht => by
      obtain ⟨d, hd, rfl⟩ := List.mem_map.mp ht
      exact (dpart_ok (hx d hd)).2
    rw [List.length_map] at this ⊢
    omega
theorem val_kT (l : List Int) (i : Int) : valD (kT l) (.inl i) = if i ∈ l then some (.bl true) else none := by
  unfold kT
  induction l with
  | nil => rfl
  | cons x r ih =>
    rw [List.map_cons]
    by_cases h : x = i
    · rw [valD_pos (show ((Sum.inl x : L2.Key), D.bl true).1 = Sum.inl i by rw [h]), if_pos (by rw [h]; exact List.mem_cons_self)]
    · rw [valD_neg (show ¬ ((Sum.inl x : L2.Key), D.bl true).1 = Sum.inl i from fun z => h (Sum.inl.inj z)), ih]
      have : (i ∈ x :: r) ↔ i ∈ r := by rw [List.mem_cons]; exact ⟨fun z => z.resolve_left (fun e => h e.symm), .inr⟩
      simp only [this]
theorem set_kT {l : List Int} {i : Int} (h : i ∉ l) : setK (kT l) (.inl i) (.bl true) = kT (l ++ [i]) := by
  unfold setK kT
  rw [if_neg]
  · rw [List.map_append]; rfl
  · intro z
    obtain ⟨x, hx, e⟩ := List.any_eq_true.mp z
    obtain ⟨y, hy, rfl⟩ := List.mem_map.mp hx
    exact h (Sum.inl.inj (of_decide_eq_true e) ▸ hy)
theorem rid_kT {l : List Int} {i : Int} : ridK (kT l) (.inl i) = kT (l.filter (fun x => decide (x ≠ i))) := by
  unfold ridK kT
  rw [List.filter_map]
  congr 1
  apply List.filter_congr
  intro x _
  show decide ((Sum.inl x : L2.Key) ≠ Sum.inl i) = decide (x ≠ i)
  rw [decide_eq_decide]
  exact ⟨fun z e => z (by rw [e]), fun z e => z (Sum.inl.inj e)⟩
theorem keys_kT (l : List Int) : (kT l).map (·.1) = l.map Sum.inl := by unfold kT; rw [List.map_map]; rfl
def LL.setSl (L : LL) (l : List Int) : LL := ⟨{ L.s with sl := l }, L.past, L.ahead⟩
def LL.setCl (L : LL) (l : List Int) : LL := ⟨{ L.s with cl := l }, L.past, L.ahead⟩
def sp_Line_doze (K : PySem.W.Frag) : DSp := fun ds w Q E => ∃ (A : LA) (L : LL) (i : Int), ds = [.ref A.p, .int i] ∧ LnAt K w A L ∧ LRoom L ∧ L.s.sl.length < 1000 ∧
  if 0 ≤ i ∧ i < L.s.len then (if i ∈ L.s.sl then E (cls K "Asleep") none w else ∀ w1 A1, LStep K w A w1 A1 ((L.kept (dTx [.str "doze", .int i])).setSl (L.s.sl ++ [i])) → Q .non w1) else E (cls K "NoMast") none w
def sp_Line_wake (K : PySem.W.Frag) : DSp := fun ds w Q E => ∃ (A : LA) (L : LL) (i : Int), ds = [.ref A.p, .int i] ∧ LnAt K w A L ∧ LRoom L ∧
  if 0 ≤ i ∧ i < L.s.len then (if i ∈ L.s.sl then ∀ w1 A1, LStep K w A w1 A1 ((L.kept (dTx [.str "wake", .int i])).setSl (L.s.sl.filter fun x => decide (x ≠ i))) → Q .non w1 else E (cls K "Awake") none w) else E (cls K "NoMast") none w
def sp_Line_fog (K : PySem.W.Frag) : DSp := fun ds w Q E => ∃ (A : LA) (L : LL) (i : Int), ds = [.ref A.p, .int i] ∧ LnAt K w A L ∧ LRoom L ∧ L.s.cl.length < 1000 ∧
  if 0 ≤ i ∧ i < L.s.len - 1 then (if i ∈ L.s.cl then E (cls K "Fogged") none w else ∀ w1 A1, LStep K w A w1 A1 ((L.kept (dTx [.str "fog", .int i])).setCl (L.s.cl ++ [i])) → Q .non w1) else E (cls K "NoMast") none w
def sp_Line_lift (K : PySem.W.Frag) : DSp := fun ds w Q E => ∃ (A : LA) (L : LL) (i : Int), ds = [.ref A.p, .int i] ∧ LnAt K w A L ∧ LRoom L ∧
  if 0 ≤ i ∧ i < L.s.len - 1 then (if i ∈ L.s.cl then ∀ w1 A1, LStep K w A w1 A1 ((L.kept (dTx [.str "lift", .int i])).setCl (L.s.cl.filter fun x => decide (x ≠ i))) → Q .non w1 else E (cls K "Clear") none w) else E (cls K "NoMast") none w
def sp_Line_asleep (K : PySem.W.Frag) : DSp := fun ds w Q _ => ∃ (A : LA) (L : LL), ds = [.ref A.p] ∧ LnAt K w A L ∧ L.s.sl.length < 64 ∧ ∀ (ys : List Int) (p : Addr), ys.Perm L.s.sl → ys.Pairwise (· ≤ ·) → w p = none → Q (.ref p) (put w p (.lst (ys.map D.int)))
def sp_Line_fogs (K : PySem.W.Frag) : DSp := fun ds w Q _ => ∃ (A : LA) (L : LL), ds = [.ref A.p] ∧ LnAt K w A L ∧ L.s.cl.length < 64 ∧ ∀ (ys : List Int) (p : Addr), ys.Perm L.s.cl → ys.Pairwise (· ≤ ·) → w p = none → Q (.ref p) (put w p (.lst (ys.map D.int)))
def t_Line_doze (K : PySem.W.Frag) (E : DX) : DS :=
  let W' : DWX := fun c d _ w => E c d w
  (dSeq (dDrop (dCall ((sp_check_mast K)) W' (dCons (dFld (He.ga K "Line") "length" (dVar 0)) (dCons (dVar 1) dNil)))) (dSeq (dIf (dB (dOp (inD false) (dVar 1) (dFld (He.ga K "Line") "sleepers" (dVar 0)))) (dRaise (cls K "Asleep") W') dNext) (dSeq (dDrop (dMeth (He.ga K "Line") "keep" (sp_Line_keep K) W' (dVar 0) (dCons (dTup (dCons (dC (.str "doze")) (dCons (dVar 1) dNil))) dNil))) (dSetK (dC (.bl true)) (dFld (He.ga K "Line") "sleepers" (dVar 0)) (dVar 1)))))
def t_Line_wake (K : PySem.W.Frag) (E : DX) : DS :=
  let W' : DWX := fun c d _ w => E c d w
  (dSeq (dDrop (dCall ((sp_check_mast K)) W' (dCons (dFld (He.ga K "Line") "length" (dVar 0)) (dCons (dVar 1) dNil)))) (dSeq (dIf (dB (dOp (inD true) (dVar 1) (dFld (He.ga K "Line") "sleepers" (dVar 0)))) (dRaise (cls K "Awake") W') dNext) (dSeq (dDrop (dMeth (He.ga K "Line") "keep" (sp_Line_keep K) W' (dVar 0) (dCons (dTup (dCons (dC (.str "wake")) (dCons (dVar 1) dNil))) dNil))) (dDrop (dPopK (dFld (He.ga K "Line") "sleepers" (dVar 0)) (dVar 1))))))
def t_Line_fog (K : PySem.W.Frag) (E : DX) : DS :=
  let W' : DWX := fun c d _ w => E c d w
  (dSeq (dDrop (dCall ((sp_check_mast K)) W' (dCons (dOp subD (dFld (He.ga K "Line") "length" (dVar 0)) (dC (.int 1))) (dCons (dVar 1) dNil)))) (dSeq (dIf (dB (dOp (inD false) (dVar 1) (dFld (He.ga K "Line") "clouds" (dVar 0)))) (dRaise (cls K "Fogged") W') dNext) (dSeq (dDrop (dMeth (He.ga K "Line") "keep" (sp_Line_keep K) W' (dVar 0) (dCons (dTup (dCons (dC (.str "fog")) (dCons (dVar 1) dNil))) dNil))) (dSetK (dC (.bl true)) (dFld (He.ga K "Line") "clouds" (dVar 0)) (dVar 1)))))
def t_Line_lift (K : PySem.W.Frag) (E : DX) : DS :=
  let W' : DWX := fun c d _ w => E c d w
  (dSeq (dDrop (dCall ((sp_check_mast K)) W' (dCons (dOp subD (dFld (He.ga K "Line") "length" (dVar 0)) (dC (.int 1))) (dCons (dVar 1) dNil)))) (dSeq (dIf (dB (dOp (inD true) (dVar 1) (dFld (He.ga K "Line") "clouds" (dVar 0)))) (dRaise (cls K "Clear") W') dNext) (dSeq (dDrop (dMeth (He.ga K "Line") "keep" (sp_Line_keep K) W' (dVar 0) (dCons (dTup (dCons (dC (.str "lift")) (dCons (dVar 1) dNil))) dNil))) (dDrop (dPopK (dFld (He.ga K "Line") "clouds" (dVar 0)) (dVar 1))))))
def t_Line_asleep (K : PySem.W.Frag) (E : DX) : DS :=
  let W' : DWX := fun c d _ w => E c d w
  (dRet (dCB sortNO (dCons (dFld (He.ga K "Line") "sleepers" (dVar 0)) dNil)))
def t_Line_fogs (K : PySem.W.Frag) (E : DX) : DS :=
  let W' : DWX := fun c d _ w => E c d w
  (dRet (dCB sortNO (dCons (dFld (He.ga K "Line") "clouds" (dVar 0)) dNil)))
theorem red_Line_asleep {K : PySem.W.Frag} : ∀ ds w Q E, sp_Line_asleep K ds w Q E → t_Line_asleep K E { nx := fun _ w1 => Q .non w1, rt := Q } (startD ["self"] ds) w := by
  rintro ds w Q E ⟨A, L, rfl, hL, hl, q⟩
  have h0 : w A.p = some (.ins (lnC K) (lnF A L.s)) := hL.at 0
  have h3 : w A.sl = some (.dK (kT L.s.sl)) := hL.at 3
  unfold t_Line_asleep
  walk_at "ls"
  exact ⟨L.s.sl, keys_kT _, hl, q⟩
theorem red_Line_fogs {K : PySem.W.Frag} : ∀ ds w Q E, sp_Line_fogs K ds w Q E → t_Line_fogs K E { nx := fun _ w1 => Q .non w1, rt := Q } (startD ["self"] ds) w := by
  rintro ds w Q E ⟨A, L, rfl, hL, hl, q⟩
  have h0 : w A.p = some (.ins (lnC K) (lnF A L.s)) := hL.at 0
  have h3 : w A.cl = some (.dK (kT L.s.cl)) := hL.at 4
  unfold t_Line_fogs
  walk_at "ls"
  exact ⟨L.s.cl, keys_kT _, hl, q⟩
theorem red_Line_doze {K : PySem.W.Frag} : ∀ ds w Q E, sp_Line_doze K ds w Q E → t_Line_doze K E { nx := fun _ w1 => Q .non w1, rt := Q } (startD ["self", "mast"] ds) w := by
  rintro ds w Q E ⟨A, L, i, rfl, hL, hr, hs, q⟩
  have h0 : w A.p = some (.ins (lnC K) (lnF A L.s)) := hL.at 0
  have h3 : w A.sl = some (.dK (kT L.s.sl)) := hL.at 3
  unfold t_Line_doze dRaise
  walk_at "ls"
  refine ⟨L.s.len, i, rfl, ?_⟩
  simp only [isMast_iff]
  by_cases hi : 0 ≤ i ∧ i < L.s.len
  · rw [if_pos hi] at q ⊢
    walk_at "ls"
    rw [val_kT]
    by_cases hm : i ∈ L.s.sl
    · rw [if_pos hm] at q ⊢; exact q
    · rw [if_neg hm] at q ⊢
      simp only [Option.isSome_none, Option.isSome_some, Bool.false_bne, Bool.true_bne, Bool.not_true, Bool.not_false, Bool.false_eq_true, if_false]
      walk_at "ls"
      have := hr.cp.l1
      refine keep_ok hL hr (fun d hd => ?_) (by show (2 : Nat) ≤ 1000; decide) fun w1 A1 st eb eh => ?_
      · rcases List.mem_cons.mp hd with rfl | hd
        · show (4 : Nat) ≤ 1000; decide
        · rcases List.mem_cons.mp hd with rfl | hd
          · exact ⟨hi.1, by omega⟩
          · cases hd
      · have a0 : w1 A1.p = some (.ins (lnC K) (lnF A1 L.s)) := st.at'.at 0
        have a3 : w1 A1.sl = some (.dK (kT L.s.sl)) := st.at'.at 3
        rw [← st.p]
        walk_at "ls"
        refine ⟨by unfold kT; rw [List.length_map]; omega, ?_⟩
        rw [set_kT hm]
        exact q _ A1 (st.trans (st.at'.step (L1 := (L.kept (dTx [.str "doze", .int i])).setSl (L.s.sl ++ [i])) 3 rfl rfl))
  · rw [if_neg hi] at q ⊢; exact q
theorem red_Line_wake {K : PySem.W.Frag} : ∀ ds w Q E, sp_Line_wake K ds w Q E → t_Line_wake K E { nx := fun _ w1 => Q .non w1, rt := Q } (startD ["self", "mast"] ds) w := by
  rintro ds w Q E ⟨A, L, i, rfl, hL, hr, q⟩
  have h0 : w A.p = some (.ins (lnC K) (lnF A L.s)) := hL.at 0
  have h3 : w A.sl = some (.dK (kT L.s.sl)) := hL.at 3
  unfold t_Line_wake dRaise
  walk_at "ls"
  refine ⟨L.s.len, i, rfl, ?_⟩
  simp only [isMast_iff]
  by_cases hi : 0 ≤ i ∧ i < L.s.len
  · rw [if_pos hi] at q ⊢
    walk_at "ls"
    rw [val_kT]
    by_cases hm : i ∈ L.s.sl
    · rw [if_pos hm] at q ⊢
      simp only [Option.isSome_none, Option.isSome_some, Bool.false_bne, Bool.true_bne, Bool.not_true, Bool.not_false, Bool.false_eq_true, if_false]
      walk_at "ls"
      have := hr.cp.l1
      refine keep_ok hL hr (fun d hd => ?_) (by show (2 : Nat) ≤ 1000; decide) fun w1 A1 st eb eh => ?_
      · rcases List.mem_cons.mp hd with rfl | hd
        · show (4 : Nat) ≤ 1000; decide
        · rcases List.mem_cons.mp hd with rfl | hd
          · exact ⟨hi.1, by omega⟩
          · cases hd
      · have a0 : w1 A1.p = some (.ins (lnC K) (lnF A1 L.s)) := st.at'.at 0
        have a3 : w1 A1.sl = some (.dK (kT L.s.sl)) := st.at'.at 3
        rw [← st.p]
        walk_at "ls"
        rw [val_kT, if_pos hm]
        walk_at "ls"
        rw [rid_kT]
        exact q _ A1 (st.trans (st.at'.step (L1 := (L.kept (dTx [.str "wake", .int i])).setSl (L.s.sl.filter fun x => decide (x ≠ i))) 3 rfl rfl))
    · rw [if_neg hm] at q ⊢; exact q
  · rw [if_neg hi] at q ⊢; exact q
theorem red_Line_fog {K : PySem.W.Frag} : ∀ ds w Q E, sp_Line_fog K ds w Q E → t_Line_fog K E { nx := fun _ w1 => Q .non w1, rt := Q } (startD ["self", "mast"] ds) w := by
  rintro ds w Q E ⟨A, L, i, rfl, hL, hr, hs, q⟩
  have h0 : w A.p = some (.ins (lnC K) (lnF A L.s)) := hL.at 0
  have h3 : w A.cl = some (.dK (kT L.s.cl)) := hL.at 4
  unfold t_Line_fog dRaise
  walk_at "ls"
  refine ⟨L.s.len - 1, i, rfl, ?_⟩
  simp only [isMast_iff]
  by_cases hi : 0 ≤ i ∧ i < L.s.len - 1
  · rw [if_pos hi] at q ⊢
    walk_at "ls"
    rw [val_kT]
    by_cases hm : i ∈ L.s.cl
    · rw [if_pos hm] at q ⊢; exact q
    · rw [if_neg hm] at q ⊢
      simp only [Option.isSome_none, Option.isSome_some, Bool.false_bne, Bool.true_bne, Bool.not_true, Bool.not_false, Bool.false_eq_true, if_false]
      walk_at "ls"
      have := hr.cp.l1
      refine keep_ok hL hr (fun d hd => ?_) (by show (2 : Nat) ≤ 1000; decide) fun w1 A1 st eb eh => ?_
      · rcases List.mem_cons.mp hd with rfl | hd
        · show (3 : Nat) ≤ 1000; decide
        · rcases List.mem_cons.mp hd with rfl | hd
          · exact ⟨hi.1, by omega⟩
          · cases hd
      · have a0 : w1 A1.p = some (.ins (lnC K) (lnF A1 L.s)) := st.at'.at 0
        have a3 : w1 A1.cl = some (.dK (kT L.s.cl)) := st.at'.at 4
        rw [← st.p]
        walk_at "ls"
        refine ⟨by unfold kT; rw [List.length_map]; omega, ?_⟩
        rw [set_kT hm]
        exact q _ A1 (st.trans (st.at'.step (L1 := (L.kept (dTx [.str "fog", .int i])).setCl (L.s.cl ++ [i])) 4 rfl rfl))
  · rw [if_neg hi] at q ⊢; exact q
theorem red_Line_lift {K : PySem.W.Frag} : ∀ ds w Q E, sp_Line_lift K ds w Q E → t_Line_lift K E { nx := fun _ w1 => Q .non w1, rt := Q } (startD ["self", "mast"] ds) w := by
  rintro ds w Q E ⟨A, L, i, rfl, hL, hr, q⟩
  have h0 : w A.p = some (.ins (lnC K) (lnF A L.s)) := hL.at 0
  have h3 : w A.cl = some (.dK (kT L.s.cl)) := hL.at 4
  unfold t_Line_lift dRaise
  walk_at "ls"
  refine ⟨L.s.len - 1, i, rfl, ?_⟩
  simp only [isMast_iff]
  by_cases hi : 0 ≤ i ∧ i < L.s.len - 1
  · rw [if_pos hi] at q ⊢
    walk_at "ls"
    rw [val_kT]
    by_cases hm : i ∈ L.s.cl
    · rw [if_pos hm] at q ⊢
      simp only [Option.isSome_none, Option.isSome_some, Bool.false_bne, Bool.true_bne, Bool.not_true, Bool.not_false, Bool.false_eq_true, if_false]
      walk_at "ls"
      have := hr.cp.l1
      refine keep_ok hL hr (fun d hd => ?_) (by show (2 : Nat) ≤ 1000; decide) fun w1 A1 st eb eh => ?_
      · rcases List.mem_cons.mp hd with rfl | hd
        · show (4 : Nat) ≤ 1000; decide
        · rcases List.mem_cons.mp hd with rfl | hd
          · exact ⟨hi.1, by omega⟩
          · cases hd
      · have a0 : w1 A1.p = some (.ins (lnC K) (lnF A1 L.s)) := st.at'.at 0
        have a3 : w1 A1.cl = some (.dK (kT L.s.cl)) := st.at'.at 4
        rw [← st.p]
        walk_at "ls"
        rw [val_kT, if_pos hm]
        walk_at "ls"
        rw [rid_kT]
        exact q _ A1 (st.trans (st.at'.step (L1 := (L.kept (dTx [.str "lift", .int i])).setCl (L.s.cl.filter fun x => decide (x ≠ i))) 4 rfl rfl))
    · rw [if_neg hm] at q ⊢; exact q
  · rw [if_neg hi] at q ⊢; exact q
end TD

set_option maxHeartbeats 4000000
namespace TD
open PySem PySem.Spec PyProof.Rows L2
local macro_rules | `(tactic| walk_at "td") => `(tactic| simp only [dSeq, dIf, dB, dOp, dUn, dCB, dVar, dC, dRet, dRetN, dNext, dDrop, dAsg, dAnd, dOr, dNot, dAndV, dOrV, dNotV, dIfE, dChain, dCons, dNil, dTup, dLst, dLstO, dCall, dSl, dPart, dNoPart, dBM, dBM0, dAug, dAsgG, dgName, dgTup, setAll, dCont, dBreak,
  addD_ii, addD_ss, addD_tt, addD_ll, subD_ii, mulD_ii, mulD_li, fdivD_ii, modD_ii, powD_ii, negD_i, ltD_ii, leD_ii, gtD_ii, geD_ii, eqD_ii, eqD_ss, eqD_bb, eqD_nn, eqD_ni, eqD_in, isN_x, isNon_non, isNon_int, isNon_str, isNon_bl, isNon_lst, isNon_tup, isNon_ref, lenD_l, lenD_r, lenD_t, lenD_s, slD_l, slD_t, slD_s, listD_l, listD_r, listD_t, listD_lO, listD_tO, tupleD_l, tupleD_t, sumD_l, allD_l, maxD_ii, minD_ii, absD_i, atSeq_l, atSeq_r, wipeD, dTy_put, app_put, true_and, and_true, dFrz, put_same, Option.bind_some, frzD_lst,
  startD, List.map_cons, List.map_nil, List.cons_append, List.nil_append, List.length_cons, List.length_nil, List.getElem?_cons_zero, List.getElem?_cons_succ, List.set_cons_zero, List.set_cons_succ, List.replicate_succ, List.replicate_zero, List.append_nil, Nat.reduceAdd, Nat.reduceSub, Int.reduceToNat, decide_eq_true_eq, Bool.false_bne, Bool.true_bne, Bool.not_eq_true', Bool.not_eq_true, decide_eq_false_iff_not, Bool.false_eq_true, Bool.true_eq_false, if_true, if_false, ite_true, ite_false, reduceIte])
local macro_rules | `(tactic| walk_at "leaf") => `(tactic| (intro Q q; first | exact q | exact ⟨by omega, q⟩ | exact ⟨⟨by omega, by omega⟩, q⟩ | exact ⟨.inl ⟨by omega, by omega⟩, q⟩ | exact ⟨.inr ⟨by omega, by omega⟩, q⟩ | (rw [ixD_l (atI_ints (by first | omega | grind) (by first | omega | grind))]; exact q) | (rw [inD_lst rfl (all_ints _), inL_ints]; exact q) | (rw [lenD_l, List.length_map]; exact q) | (rw [lenD_r, List.length_map]; exact q)))
local macro_rules | `(tactic| walk_at "ev") => `(tactic| repeat' (first | exact eve_var rfl | exact eve_c | exact eva_nil | apply evt_and | apply evt_or | apply evt_not | apply evt_B | apply eva_cons | apply eve_and | apply eve_or | apply eve_not | apply eve_chain | apply eve_op | apply eve_un | apply eve_cb | (refine Gd.mk (fun _ => ?_)) | (refine Gn.mk (fun _ => ?_)) | walk_at "leaf"))
local macro_rules | `(tactic| walk_at "bl") => `(tactic| simp only [Bool.false_bne, Bool.true_bne, Bool.and_eq_true, Bool.or_eq_true, Bool.and_eq_false_iff, Bool.or_eq_false_iff, Bool.not_eq_true', Bool.not_eq_false', Bool.not_not, decide_eq_true_eq, decide_eq_false_iff_not] at *)
local macro_rules | `(tactic| walk_at "ls") => `(tactic| try simp (config := {decide := true}) only [dSeq, dIf, dB, dOp, dUn, dCB, dVar, dC, dRet, dRetN, dNext, dDrop, dAsg, dAnd, dOr, dNot, dAndV, dOrV, dNotV, dIfE, dChain, dCons, dNil, dTup, dLst, dLstO, dCall, dSl, dPart, dNoPart, dBM, dBM0, dAug, dAsgG, dgName, dgTup, setAll, dCont, dBreak,
  addD_ii, addD_ss, addD_tt, addD_ll, subD_ii, mulD_ii, mulD_li, fdivD_ii, modD_ii, powD_ii, negD_i, ltD_ii, leD_ii, gtD_ii, geD_ii, eqD_ii, eqD_ss, eqD_bb, eqD_nn, eqD_ni, eqD_in, isN_x, isNon_non, isNon_int, isNon_str, isNon_bl, isNon_lst, isNon_tup, isNon_ref, lenD_l, lenD_r, lenD_t, lenD_s, slD_l, slD_t, slD_s, listD_l, listD_r, listD_t, listD_lO, listD_tO, tupleD_l, tupleD_t, sumD_l, allD_l, maxD_ii, minD_ii, absD_i, atSeq_l, atSeq_r, wipeD, dTy_put, app_put, true_and, and_true, dFrz, put_same, Option.bind_some, frzD_lst,
  startD, List.map_cons, List.map_nil, List.cons_append, List.nil_append, List.length_cons, List.length_nil, List.getElem?_cons_zero, List.getElem?_cons_succ, List.set_cons_zero, List.set_cons_succ, List.replicate_succ, List.replicate_zero, List.append_nil, Nat.reduceAdd, Nat.reduceSub, Int.reduceToNat, decide_eq_true_eq, Bool.false_bne, Bool.true_bne, Bool.not_eq_true', Bool.not_eq_true, decide_eq_false_iff_not, Bool.false_eq_true, Bool.true_eq_false, if_true, if_false, ite_true, ite_false, reduceIte,
  atO_q, insK_s, getF_hd, getF_tl, putD_nil, putD_hd, putD_tl, look_hd, look_tl, look_nil, put_same, put_put, put_ne, put_en, ne_eq, not_false_eq_true, not_true_eq_false, true_and, and_true, dFld, dFldS, dNewK, dNewT, dMeth, dMake, dSetK, dPopK, dGet1, ixD_ref, ixNd_l, ixNd_ks, ixNd_ki, ixNd_t1, ixNd_t2, ixNd_t3, inD_ref, inNd_ks, inNd_ki, inNd_t2, inNd_t3, lenD_ref, lenNd_l, lenNd_k, listD_ref, lisNd_l, lisNd_o, tupleD_ref, tupNd_l, appD_1, popD_0, clrD_0, atL_ref, atLd_l, dPutAt_ref, putNd_ks, putNd_ki, putNd_t1, putNd_t2, putNd_t3, dPopAt_ref, popNd_ki, popNd_ks, popNd_t2, popNd_t3, isDc_ref, isDn_k, isDn_t, copyK_q, copyT_q, copNd_o, copNd_f, cotNd_o, cotNd_f, sortN_q, srtNd_k, sortNO_q, sroNd_k, remD_1, mulDO_li, ixT_0, ixT_1, ixT_2, ixT_3, valD_hd, valD_tl, valD_nil, setK_nil, setK_1, setK_20, setK_21, optD_s, Option.isSome_some, Option.isSome_none, *])
local macro_rules | `(tactic| walk_at "fin") => `(tactic| simp (config := {decide := true}) only [put_same, put_ne, put_en, rid_same, rid_en, put_eqn, ne_eq, not_false_eq_true, not_true_eq_false, true_and, and_true, and_self, implies_true, List.forall_mem_cons, List.not_mem_nil, false_implies, List.nodup_cons, List.mem_cons, or_false, or_self, List.nodup_nil, *])
abbrev N23 : List Str := ["BadWay", "BadSign", "Full", "NothingWaits", "NoMast", "NotReady", "NotRaising", "BadSlip", "Asleep", "Awake", "Fogged", "Clear", "Busy", "NoRow", "NoBook", "Lost", "Legible", "NothingLeft", "BadPlace", "BadWord", "Taken", "Known", "NoWord"]
structure X23 (K : PySem.W.Frag) : Prop where
  c : ∀ x ∈ N23, ExcC K (He.ga K x)
  k : ∀ x ∈ N23, ∀ y ∈ N23, PySem.W.kitOne K (cls K x) (cls K y) = some (decide (x = y))
  m : ∀ x ∈ N23, PySem.W.exmOne K (cls K x) (cls K "MastError") = some true
def sp__law_kind (K : PySem.W.Frag) : SpK := fun cl x w Q => ∃ n : Str, n ∈ N23 ∧ cl = cls K n ∧ x = none ∧ Q (.str n) w
def t__law_kind (K : PySem.W.Frag) (a : Addr) (cl : Value) (x : Option D) : DS :=
  (dSeq (dAsg (dLst (dCons (dIsE K 0 a cl x (cls K "BadWay")) (dCons (dIsE K 0 a cl x (cls K "BadSign")) (dCons (dIsE K 0 a cl x (cls K "Full")) (dCons (dIsE K 0 a cl x (cls K "NothingWaits")) dNil))))) 1) (dSeq (dAsg (dOp addD (dVar 1) (dLst (dCons (dIsE K 0 a cl x (cls K "NoMast")) (dCons (dIsE K 0 a cl x (cls K "NotReady")) (dCons (dIsE K 0 a cl x (cls K "NotRaising")) (dCons (dIsE K 0 a cl x (cls K "BadSlip")) dNil)))))) 1) (dSeq (dAsg (dOp addD (dVar 1) (dLst (dCons (dIsE K 0 a cl x (cls K "Asleep")) (dCons (dIsE K 0 a cl x (cls K "Awake")) (dCons (dIsE K 0 a cl x (cls K "Fogged")) (dCons (dIsE K 0 a cl x (cls K "Clear")) dNil)))))) 1) (dSeq (dAsg (dOp addD (dVar 1) (dLst (dCons (dIsE K 0 a cl x (cls K "Busy")) (dCons (dIsE K 0 a cl x (cls K "NoRow")) (dCons (dIsE K 0 a cl x (cls K "NoBook")) (dCons (dIsE K 0 a cl x (cls K "Lost")) dNil)))))) 1) (dSeq (dAsg (dOp addD (dVar 1) (dLst (dCons (dIsE K 0 a cl x (cls K "Legible")) (dCons (dIsE K 0 a cl x (cls K "NothingLeft")) (dCons (dIsE K 0 a cl x (cls K "BadPlace")) dNil))))) 1) (dSeq (dAsg (dOp addD (dVar 1) (dLst (dCons (dIsE K 0 a cl x (cls K "BadWord")) (dCons (dIsE K 0 a cl x (cls K "Taken")) (dCons (dIsE K 0 a cl x (cls K "Known")) (dCons (dIsE K 0 a cl x (cls K "NoWord")) dNil)))))) 1) (dSeq (dAsg (dLst (dCons (dC (.str "BadWay")) (dCons (dC (.str "BadSign")) (dCons (dC (.str "Full")) (dCons (dC (.str "NothingWaits")) (dCons (dC (.str "NoMast")) (dCons (dC (.str "NotReady")) (dCons (dC (.str "NotRaising")) (dCons (dC (.str "BadSlip")) (dCons (dC (.str "Asleep")) dNil)))))))))) 2) (dSeq (dAsg (dOp addD (dVar 2) (dLst (dCons (dC (.str "Awake")) (dCons (dC (.str "Fogged")) (dCons (dC (.str "Clear")) (dCons (dC (.str "Busy")) (dCons (dC (.str "NoRow")) (dCons (dC (.str "NoBook")) (dCons (dC (.str "Lost")) (dCons (dC (.str "Legible")) (dCons (dC (.str "NothingLeft")) dNil))))))))))) 2) (dSeq (dAsg (dOp addD (dVar 2) (dLst (dCons (dC (.str "BadPlace")) (dCons (dC (.str "BadWord")) (dCons (dC (.str "Taken")) (dCons (dC (.str "Known")) (dCons (dC (.str "NoWord")) dNil))))))) 2) (dSeq (dIf (dB (dOp neI (dBM "list" cntD (dVar 1) (dCons (dC (.bl true)) dNil)) (dC (.int 1)))) (dRet (dC (.str "several"))) dNext) (dRet (dOp ixH (dVar 2) (dBM "list" idxD (dVar 1) (dCons (dC (.bl true)) dNil))))))))))))))
def isA (K : PySem.W.Frag) (a : Addr) (cl : Value) : List Str → DA
  | [] => dNil
  | b :: r => dCons (dIsE K 0 a cl none (cls K b)) (isA K a cl r)
def stA : List Str → DA
  | [] => dNil
  | b :: r => dCons (dC (.str b)) (stA r)
def kB (n : Str) (bs : List Str) : List D := (bs.map fun b => decide (n = b)).map D.bl
theorem isA_ev {K : PySem.W.Frag} {n : Str} {a : Addr} {w : Wd} {S : DSt} (hC : ExcC K (He.ga K n)) : ∀ (bs : List Str), (∀ b ∈ bs, PySem.W.kitOne K (cls K n) (cls K b) = some (decide (n = b))) → ∀ Q : List D → Wd → Prop, Q (kB n bs) w → isA K a (cls K n) bs (some (.ref a) :: S) w Q
  | [], _, _, q => q
  | b :: r, h, Q, q => by
    show dCons (dIsE K 0 a (cls K n) none (cls K b)) (isA K a (cls K n) r) (some (.ref a) :: S) w Q
    unfold dCons
    rw [isE_eq hC, h b (List.mem_cons_self ..)]
    exact isA_ev hC r (fun c hc => h c (List.mem_cons_of_mem _ hc)) _ q
theorem stA_ev {w : Wd} {S : DSt} : ∀ (bs : List Str) (Q : List D → Wd → Prop), Q (bs.map D.str) w → stA bs S w Q
  | [], _, q => q
  | b :: r, Q, q => stA_ev r _ q
theorem seq_asg {te : DE} {i : Nat} {t : DS} {E : DEnds} {S : DSt} {w : Wd} {d : D} (h : EvE te S w d) (q : t E (S.set i (some d)) w) : dSeq (dAsg te i) t E S w := h _ q
theorem lst_ev {t : DA} {S : DSt} {w : Wd} {ds : List D} (h : ∀ Q : List D → Wd → Prop, Q ds w → t S w Q) (hl : ds.length ≤ 100000) : EvE (dLst t) S w (.lst ds) := fun Q q => h _ ⟨small hl, q⟩
theorem add_ev {t : DA} {S : DSt} {w : Wd} {i : Nat} {xs ds : List D} (hi : S[i]? = some (some (.lst xs))) (h : ∀ Q : List D → Wd → Prop, Q ds w → t S w Q) (hl : xs.length + ds.length ≤ 100000) : EvE (dOp addD (dVar i) (dLst t)) S w (.lst (xs ++ ds)) := fun Q q => by
  unfold dOp dVar
  rw [hi]
  refine h _ ⟨small (by omega), small (by omega), q⟩
theorem kB_app (n : Str) (a b : List Str) : kB n a ++ kB n b = kB n (a ++ b) := by unfold kB; rw [List.map_append, List.map_append]
theorem kB_len (n : Str) (a : List Str) : (kB n a).length = a.length := by unfold kB; rw [List.length_map, List.length_map]
theorem red__law_kind {K : PySem.W.Frag} (hX : X23 K) : ∀ a cl x w Q, sp__law_kind K cl x w Q → t__law_kind K a cl x { nx := fun _ w1 => Q .non w1, rt := Q } (startD ["_law_e", "_law_kinds", "_law_names"] [.ref a]) w := by
  rintro a cl x w Q ⟨n, hn, rfl, rfl, q⟩
  have hC := hX.c n hn
  have hk : ∀ (i j : Nat), ∀ b ∈ (N23.drop i).take j, PySem.W.kitOne K (cls K n) (cls K b) = some (decide (n = b)) := fun i j b hb => hX.k n hn b (List.mem_of_mem_drop (List.mem_of_mem_take hb))
  unfold t__law_kind
  refine seq_asg (te := dLst (isA K a (cls K n) ((N23.drop 0).take 4))) (lst_ev (isA_ev hC _ (hk 0 4)) (by rw [kB_len]; decide)) ?_
  refine seq_asg (te := dOp addD (dVar 1) (dLst (isA K a (cls K n) ((N23.drop 4).take 4)))) (add_ev rfl (isA_ev hC _ (hk 4 4)) (by rw [kB_len, kB_len]; decide)) ?_
  rw [kB_app]
  refine seq_asg (te := dOp addD (dVar 1) (dLst (isA K a (cls K n) ((N23.drop 8).take 4)))) (add_ev rfl (isA_ev hC _ (hk 8 4)) (by rw [kB_len, kB_len]; decide)) ?_
  rw [kB_app]
  refine seq_asg (te := dOp addD (dVar 1) (dLst (isA K a (cls K n) ((N23.drop 12).take 4)))) (add_ev rfl (isA_ev hC _ (hk 12 4)) (by rw [kB_len, kB_len]; decide)) ?_
  rw [kB_app]
  refine seq_asg (te := dOp addD (dVar 1) (dLst (isA K a (cls K n) ((N23.drop 16).take 3)))) (add_ev rfl (isA_ev hC _ (hk 16 3)) (by rw [kB_len, kB_len]; decide)) ?_
  rw [kB_app]
  refine seq_asg (te := dOp addD (dVar 1) (dLst (isA K a (cls K n) ((N23.drop 19).take 4)))) (add_ev rfl (isA_ev hC _ (hk 19 4)) (by rw [kB_len, kB_len]; decide)) ?_
  rw [kB_app]
  refine seq_asg (te := dLst (stA (N23.take 9))) (lst_ev (stA_ev _) (by decide)) ?_
  refine seq_asg (te := dOp addD (dVar 2) (dLst (stA ((N23.drop 9).take 9)))) (add_ev rfl (stA_ev _) (by decide)) ?_
  refine seq_asg (te := dOp addD (dVar 2) (dLst (stA (N23.drop 18)))) (add_ev rfl (stA_ev _) (by decide)) ?_
  obtain ⟨j, h1, h2, h3, h4⟩ := kinds_at (n := n) (N := N23) (by decide +kernel) hn
  have eb : ∀ {t : DS} {E : DEnds} {S : DSt} {w : Wd} {c : DT}, (∀ R : Bool → Wd → Prop, R false w → c S w R) → t E S w → dSeq (dIf c (dRet (dC (.str "several"))) dNext) t E S w := fun {t E S w c} h q => h _ (by rw [if_neg Bool.false_ne_true]; exact q)
  have e1 : kB n ((((((N23.drop 0).take 4 ++ (N23.drop 4).take 4) ++ (N23.drop 8).take 4) ++ (N23.drop 12).take 4) ++ (N23.drop 16).take 3) ++ (N23.drop 19).take 4) = (N23.map fun b => decide (n = b)).map D.bl := rfl
  have e2 : ((N23.take 9).map D.str ++ ((N23.drop 9).take 9).map D.str) ++ (N23.drop 18).map D.str = N23.map D.str := rfl
  rw [e1, e2]
  refine eb (fun R r => ?_) ?_
  · show dB (dOp neI _ _) _ _ _
    refine ⟨dTy_l, N23.map (fun b => decide (n = b)), rfl, ?_⟩
    rw [h4]
    exact r
  · refine ⟨dTy_l, N23.map (fun b => decide (n = b)), j, rfl, h2, h3, ?_⟩
    have e : atI (N23.map D.str) (j : Int) = some (.str n) := atI_nat (by rw [List.getElem?_map, h1]; rfl)
    show (match atI (N23.map D.str) (j : Int) with | some d => Q d w | none => False)
    rw [e]
    exact q
end TD

set_option maxHeartbeats 4000000
namespace TD
open PySem PySem.Spec PyProof.Rows L2
local macro_rules | `(tactic| walk_at "td") => `(tactic| simp only [dSeq, dIf, dB, dOp, dUn, dCB, dVar, dC, dRet, dRetN, dNext, dDrop, dAsg, dAnd, dOr, dNot, dAndV, dOrV, dNotV, dIfE, dChain, dCons, dNil, dTup, dLst, dLstO, dCall, dSl, dPart, dNoPart, dBM, dBM0, dAug, dAsgG, dgName, dgTup, setAll, dCont, dBreak,
  addD_ii, addD_ss, addD_tt, addD_ll, subD_ii, mulD_ii, mulD_li, fdivD_ii, modD_ii, powD_ii, negD_i, ltD_ii, leD_ii, gtD_ii, geD_ii, eqD_ii, eqD_ss, eqD_bb, eqD_nn, eqD_ni, eqD_in, isN_x, isNon_non, isNon_int, isNon_str, isNon_bl, isNon_lst, isNon_tup, isNon_ref, lenD_l, lenD_r, lenD_t, lenD_s, slD_l, slD_t, slD_s, listD_l, listD_r, listD_t, listD_lO, listD_tO, tupleD_l, tupleD_t, sumD_l, allD_l, maxD_ii, minD_ii, absD_i, atSeq_l, atSeq_r, wipeD, dTy_put, app_put, true_and, and_true, dFrz, put_same, Option.bind_some, frzD_lst,
  startD, List.map_cons, List.map_nil, List.cons_append, List.nil_append, List.length_cons, List.length_nil, List.getElem?_cons_zero, List.getElem?_cons_succ, List.set_cons_zero, List.set_cons_succ, List.replicate_succ, List.replicate_zero, List.append_nil, Nat.reduceAdd, Nat.reduceSub, Int.reduceToNat, decide_eq_true_eq, Bool.false_bne, Bool.true_bne, Bool.not_eq_true', Bool.not_eq_true, decide_eq_false_iff_not, Bool.false_eq_true, Bool.true_eq_false, if_true, if_false, ite_true, ite_false, reduceIte])
local macro_rules | `(tactic| walk_at "leaf") => `(tactic| (intro Q q; first | exact q | exact ⟨by omega, q⟩ | exact ⟨⟨by omega, by omega⟩, q⟩ | exact ⟨.inl ⟨by omega, by omega⟩, q⟩ | exact ⟨.inr ⟨by omega, by omega⟩, q⟩ | (rw [ixD_l (atI_ints (by first | omega | grind) (by first | omega | grind))]; exact q) | (rw [inD_lst rfl (all_ints _), inL_ints]; exact q) | (rw [lenD_l, List.length_map]; exact q) | (rw [lenD_r, List.length_map]; exact q)))
local macro_rules | `(tactic| walk_at "ev") => `(tactic| repeat' (first | exact eve_var rfl | exact eve_c | exact eva_nil | apply evt_and | apply evt_or | apply evt_not | apply evt_B | apply eva_cons | apply eve_and | apply eve_or | apply eve_not | apply eve_chain | apply eve_op | apply eve_un | apply eve_cb | (refine Gd.mk (fun _ => ?_)) | (refine Gn.mk (fun _ => ?_)) | walk_at "leaf"))
local macro_rules | `(tactic| walk_at "bl") => `(tactic| simp only [Bool.false_bne, Bool.true_bne, Bool.and_eq_true, Bool.or_eq_true, Bool.and_eq_false_iff, Bool.or_eq_false_iff, Bool.not_eq_true', Bool.not_eq_false', Bool.not_not, decide_eq_true_eq, decide_eq_false_iff_not] at *)
local macro_rules | `(tactic| walk_at "ls") => `(tactic| try simp (config := {decide := true}) only [dSeq, dIf, dB, dOp, dUn, dCB, dVar, dC, dRet, dRetN, dNext, dDrop, dAsg, dAnd, dOr, dNot, dAndV, dOrV, dNotV, dIfE, dChain, dCons, dNil, dTup, dLst, dLstO, dCall, dSl, dPart, dNoPart, dBM, dBM0, dAug, dAsgG, dgName, dgTup, setAll, dCont, dBreak,
  addD_ii, addD_ss, addD_tt, addD_ll, subD_ii, mulD_ii, mulD_li, fdivD_ii, modD_ii, powD_ii, negD_i, ltD_ii, leD_ii, gtD_ii, geD_ii, eqD_ii, eqD_ss, eqD_bb, eqD_nn, eqD_ni, eqD_in, isN_x, isNon_non, isNon_int, isNon_str, isNon_bl, isNon_lst, isNon_tup, isNon_ref, lenD_l, lenD_r, lenD_t, lenD_s, slD_l, slD_t, slD_s, listD_l, listD_r, listD_t, listD_lO, listD_tO, tupleD_l, tupleD_t, sumD_l, allD_l, maxD_ii, minD_ii, absD_i, atSeq_l, atSeq_r, wipeD, dTy_put, app_put, true_and, and_true, dFrz, put_same, Option.bind_some, frzD_lst,
  startD, List.map_cons, List.map_nil, List.cons_append, List.nil_append, List.length_cons, List.length_nil, List.getElem?_cons_zero, List.getElem?_cons_succ, List.set_cons_zero, List.set_cons_succ, List.replicate_succ, List.replicate_zero, List.append_nil, Nat.reduceAdd, Nat.reduceSub, Int.reduceToNat, decide_eq_true_eq, Bool.false_bne, Bool.true_bne, Bool.not_eq_true', Bool.not_eq_true, decide_eq_false_iff_not, Bool.false_eq_true, Bool.true_eq_false, if_true, if_false, ite_true, ite_false, reduceIte,
  atO_q, insK_s, getF_hd, getF_tl, putD_nil, putD_hd, putD_tl, look_hd, look_tl, look_nil, put_same, put_put, put_ne, put_en, ne_eq, not_false_eq_true, not_true_eq_false, true_and, and_true, dFld, dFldS, dNewK, dNewT, dMeth, dMake, dSetK, dPopK, dGet1, ixD_ref, ixNd_l, ixNd_ks, ixNd_ki, ixNd_t1, ixNd_t2, ixNd_t3, inD_ref, inNd_ks, inNd_ki, inNd_t2, inNd_t3, lenD_ref, lenNd_l, lenNd_k, listD_ref, lisNd_l, lisNd_o, tupleD_ref, tupNd_l, appD_1, popD_0, clrD_0, atL_ref, atLd_l, dPutAt_ref, putNd_ks, putNd_ki, putNd_t1, putNd_t2, putNd_t3, dPopAt_ref, popNd_ki, popNd_ks, popNd_t2, popNd_t3, isDc_ref, isDn_k, isDn_t, copyK_q, copyT_q, copNd_o, copNd_f, cotNd_o, cotNd_f, sortN_q, srtNd_k, sortNO_q, sroNd_k, addD_wl, lstOf_l, inD_tup, inL_nl, inL_sc, inNd_li, intD_b, decide_true, decide_false, Bool.true_or, Bool.false_or, Bool.or_false, Bool.or_true, Bool.not_true, Bool.not_false, Bool.true_and, Bool.and_true, Bool.false_and, Bool.and_false, remD_1, mulDO_li, ixT_0, ixT_1, ixT_2, ixT_3, valD_hd, valD_tl, valD_nil, setK_nil, setK_1, setK_20, setK_21, setK_30, setK_31, setK_32, optD_s, Option.isSome_some, Option.isSome_none, *])
local macro_rules | `(tactic| walk_at "fin") => `(tactic| simp (config := {decide := true}) only [put_same, put_ne, put_en, rid_same, rid_en, put_eqn, ne_eq, not_false_eq_true, not_true_eq_false, true_and, and_true, and_self, implies_true, List.forall_mem_cons, List.not_mem_nil, false_implies, List.nodup_cons, List.mem_cons, or_false, or_self, List.nodup_nil, *])
inductive Sky where
  | doze | wake | fog | lift
def Sky.nm : Sky → Str
  | .doze => "doze" | .wake => "wake" | .fog => "fog" | .lift => "lift"
/-- why a deed is refused -/
def Sky.no (m : Int) (as fs : List Int) (i : Int) : Sky → Option Str
  | .doze => if 0 ≤ i ∧ i < m then (if i ∈ as then some "Asleep" else none) else some "NoMast"
  | .wake => if 0 ≤ i ∧ i < m then (if i ∈ as then none else some "Awake") else some "NoMast"
  | .fog => if 0 ≤ i ∧ i < m - 1 then (if i ∈ fs then some "Fogged" else none) else some "NoMast"
  | .lift => if 0 ≤ i ∧ i < m - 1 then (if i ∈ fs then none else some "Clear") else some "NoMast"
def Sky.go (L : LL) (i : Int) : Sky → LL
  | .doze => (L.kept (dTx [.str "doze", .int i])).setSl (L.s.sl ++ [i])
  | .wake => (L.kept (dTx [.str "wake", .int i])).setSl (L.s.sl.filter fun x => decide (x ≠ i))
  | .fog => (L.kept (dTx [.str "fog", .int i])).setCl (L.s.cl ++ [i])
  | .lift => (L.kept (dTx [.str "lift", .int i])).setCl (L.s.cl.filter fun x => decide (x ≠ i))
/-- the law's own lists behind a deed -/
def Sky.own (as fs : List Int) (i : Int) (as' fs' : List Int) : Sky → Prop
  | .doze => as'.Perm (as ++ [i]) ∧ as'.Pairwise (· ≤ ·) ∧ fs' = fs
  | .wake => as' = as.erase i ∧ fs' = fs
  | .fog => fs'.Perm (fs ++ [i]) ∧ fs'.Pairwise (· ≤ ·) ∧ as' = as
  | .lift => fs' = fs.erase i ∧ as' = as
structure SkAt (w : Wd) (s ra rf : Addr) (m : Int) (as fs : List Int) : Prop where
  s : w s = some (.dK [(.inr "masts", .int m), (.inr "asleep", .ref ra), (.inr "fogs", .ref rf)])
  a : w ra = some (.lst (as.map D.int))
  f : w rf = some (.lst (fs.map D.int))
  ne : ra ≠ rf
def sp__law_sky_deed : DSp := fun ds w Q _ => ∃ (s ra rf : Addr) (m : Int) (as fs : List Int) (k : Sky) (i : Int), ds = [.ref s, .tup [.str k.nm, .int i]] ∧ SkAt w s ra rf m as fs ∧ as.length < 1000 ∧ fs.length < 1000 ∧
  match k.no m as fs i with
  | some e => ∀ w1, Grow w w1 → Q (.tup [.str "no", .str e]) w1
  | none => ∀ w1 ra1 rf1 as1 fs1, SkAt w1 s ra1 rf1 m as1 fs1 → (∀ a n, w a = some n → a ≠ s → a ≠ ra → a ≠ rf → w1 a = some n) → (ra1 = ra ∨ w ra1 = none) → (rf1 = rf ∨ w rf1 = none) → k.own as fs i as1 fs1 → Q (.tup [.str "told", .non]) w1
def sp__law_do (K : PySem.W.Frag) : DSp := fun ds w Q E => ∃ (A : LA) (L : LL) (k : Sky) (i : Int), ds = [.ref A.p, .tup [.str k.nm, .int i]] ∧ LnAt K w A L ∧ LRoom L ∧ L.s.sl.length < 64 ∧ L.s.cl.length < 64 ∧
  match k.no L.s.len L.s.sl L.s.cl i with
  | some e => E (cls K e) none w
  | none => ∀ w1 A1, LStep K w A w1 A1 (k.go L i) → Q .non w1
def sp__law_tried (K : PySem.W.Frag) : DSp := fun ds w Q E => ∃ (A : LA) (L : LL) (k : Sky) (i : Int), ds = [.ref A.p, .tup [.str k.nm, .int i]] ∧ LnAt K w A L ∧ LRoom L ∧ L.s.sl.length < 64 ∧ L.s.cl.length < 64 ∧
  match k.no L.s.len L.s.sl L.s.cl i with
  | some e => Q (.tup [.str "no", .str e]) w
  | none => ∀ w1 A1, LStep K w A w1 A1 (k.go L i) → Q (.tup [.str "told", .non]) w1
def sp_law : DSp := fun ds _ Q _ => ∃ (ns : List Int), ds = [.rol (ns.map D.int)] ∧ ns.length ≤ 63 ∧ ∀ w, Q (.bl true) w
def t__law_sky_deed (E : DX) : DS :=
  let W' : DWX := fun c d _ w => E c d w
  (dSeq (dAsg (dIfE (dB (dOp (inD false) (dOp ixD (dVar 1) (dC (.int 0))) (dTup (dCons (dC (.str "doze")) (dCons (dC (.str "wake")) dNil))))) (dC (.str "asleep")) (dC (.str "fogs"))) 2) (dSeq (dAsg (dOp subD (dOp ixD (dVar 0) (dC (.str "masts"))) (dCB intD (dCons (dOp (eqD false) (dVar 2) (dC (.str "fogs"))) dNil))) 3) (dSeq (dIf (dNot (dB (dChain leD ltD (dC (.int 0)) (dOp ixD (dVar 1) (dC (.int 1))) (dVar 3)))) (dRet (dTup (dCons (dC (.str "no")) (dCons (dC (.str "NoMast")) dNil)))) dNext) (dSeq (dAsg (dOp (inD false) (dOp ixD (dVar 1) (dC (.int 1))) (dOp ixD (dVar 0) (dVar 2))) 4) (dSeq (dIf (dB (dOp (inD false) (dOp ixD (dVar 1) (dC (.int 0))) (dTup (dCons (dC (.str "doze")) (dCons (dC (.str "fog")) dNil))))) (dSeq (dIf (dB (dVar 4)) (dRet (dTup (dCons (dC (.str "no")) (dCons (dOp ixD (dDisp ["doze", "fog"] (dCons (dC (.str "Asleep")) (dCons (dC (.str "Fogged")) dNil))) (dOp ixD (dVar 1) (dC (.int 0)))) dNil)))) dNext) (dSetK (dCB sortDO (dCons (dOp addD (dOp ixD (dVar 0) (dVar 2)) (dLst (dCons (dOp ixD (dVar 1) (dC (.int 1))) dNil))) dNil)) (dVar 0) (dVar 2))) (dSeq (dIf (dNot (dB (dVar 4))) (dRet (dTup (dCons (dC (.str "no")) (dCons (dOp ixD (dDisp ["wake", "lift"] (dCons (dC (.str "Awake")) (dCons (dC (.str "Clear")) dNil))) (dOp ixD (dVar 1) (dC (.int 0)))) dNil)))) dNext) (dDrop (dBM "list" remD (dOp ixD (dVar 0) (dVar 2)) (dCons (dOp ixD (dVar 1) (dC (.int 1))) dNil))))) (dRet (dTup (dCons (dC (.str "told")) (dCons (dC .non) dNil)))))))))
def t__law_do (K : PySem.W.Frag) (E : DX) : DS :=
  let W' : DWX := fun c d _ w => E c d w
  (dSeq (dIf (dB (dOp (eqD false) (dOp ixD (dVar 1) (dC (.int 0))) (dC (.str "send")))) (dRet dNeverE) dNext) (dSeq (dIf (dB (dOp (eqD false) (dOp ixD (dVar 1) (dC (.int 0))) (dC (.str "express")))) (dRet dNeverE) dNext) (dSeq (dIf (dB (dOp (eqD false) (dOp ixD (dVar 1) (dC (.int 0))) (dC (.str "say")))) (dRet dNeverE) dNext) (dSeq (dIf (dB (dOp (eqD false) (dOp ixD (dVar 1) (dC (.int 0))) (dC (.str "recall")))) (dRet dNeverE) dNext) (dSeq (dIf (dB (dOp (eqD false) (dOp ixD (dVar 1) (dC (.int 0))) (dC (.str "act")))) (dRet dNeverE) dNext) (dSeq (dIf (dB (dOp (eqD false) (dOp ixD (dVar 1) (dC (.int 0))) (dC (.str "slip")))) (dRet dNeverE) dNext) (dSeq (dIf (dB (dOp (eqD false) (dOp ixD (dVar 1) (dC (.int 0))) (dC (.str "doze")))) (dRet (dMeth (He.ga K "Line") "doze" (sp_Line_doze K) W' (dVar 0) (dCons (dOp ixD (dVar 1) (dC (.int 1))) dNil))) dNext) (dSeq (dIf (dB (dOp (eqD false) (dOp ixD (dVar 1) (dC (.int 0))) (dC (.str "wake")))) (dRet (dMeth (He.ga K "Line") "wake" (sp_Line_wake K) W' (dVar 0) (dCons (dOp ixD (dVar 1) (dC (.int 1))) dNil))) dNext) (dSeq (dIf (dB (dOp (eqD false) (dOp ixD (dVar 1) (dC (.int 0))) (dC (.str "fog")))) (dRet (dMeth (He.ga K "Line") "fog" (sp_Line_fog K) W' (dVar 0) (dCons (dOp ixD (dVar 1) (dC (.int 1))) dNil))) dNext) (dSeq (dIf (dB (dOp (eqD false) (dOp ixD (dVar 1) (dC (.int 0))) (dC (.str "lift")))) (dRet (dMeth (He.ga K "Line") "lift" (sp_Line_lift K) W' (dVar 0) (dCons (dOp ixD (dVar 1) (dC (.int 1))) dNil))) dNext) (dSeq (dIf (dB (dOp (eqD false) (dOp ixD (dVar 1) (dC (.int 0))) (dC (.str "beat")))) (dRet dNeverE) dNext) (dRet dNeverE))))))))))))
def t__law_tried (K : PySem.W.Frag) (E : DX) : DS :=
  let W' : DWX := fun c d _ w => E c d w
  (dSeq (dAsg (dTup (dCons (dC (.str "no")) (dCons (dC (.str "")) dNil))) 2) (dCut (dTryAs K (cls K "MastError") 3 (fun V' => (dAsg (dTup (dCons (dC (.str "told")) (dCons (dCall ((sp__law_do K)) V' (dCons (dVar 0) (dCons (dVar 1) dNil))) dNil))) 2)) (fun a cl x => (dAsg (dTup (dCons (dC (.str "no")) (dCons (dCallK 3 a cl x ((sp__law_kind K))) dNil))) 2)) W') (dRet (dVar 2))))
def t_law (K : PySem.W.Frag) (E : DX) : DS :=
  let W' : DWX := fun c d _ w => E c d w
  (dSeq (dAsg (dOp addD (dC (.int 2)) (dOp modD (dCall sp__law_cell W' (dCons (dVar 0) (dCons (dC (.int 0)) dNil))) (dC (.int 11)))) 1) (dSeq (dAsg (dMake (He.ga K "Line") (sp_Line_init K) W' (dCons (dVar 1) dNil)) 2) (dSeq (dAsg (dDisp ["masts", "asleep", "fogs"] (dCons (dVar 1) (dCons (dLstO dNil) (dCons (dLstO dNil) dNil)))) 3) (dSeq (dFor (diR2 (dCons (dC (.int 1)) (dCons (dCB maxD (dCons (dC (.int 16)) (dCons (dCB minD (dCons (dC (.int 61)) (dCons (dCB lenD (dCons (dVar 0) dNil)) dNil))) dNil))) dNil))) (dgName 4) (dSeq (dAsg (dCall sp__law_row W' (dCons (dCall sp__law_cell W' (dCons (dVar 0) (dCons (dVar 4) dNil))) (dCons (dC (.int 3)) (dCons (dC (.int 9240)) dNil)))) 5) (dSeq (dAsg (dOp subD (dOp modD (dOp ixD (dVar 5) (dC (.int 1))) (dOp addD (dVar 1) (dC (.int 3)))) (dC (.int 1))) 6) (dCut (dIf (dB (dOp (eqD false) (dOp modD (dOp ixD (dVar 5) (dC (.int 2))) (dC (.int 29))) (dC (.int 0)))) (dAsg (dOp ixD (dTup (dCons (dOp powD (dC (.int 10)) (dC (.int 30))) (dCons (dOp subD (dC (.int 0)) (dOp powD (dC (.int 10)) (dC (.int 30)))) dNil))) (dOp modD (dOp ixD (dVar 5) (dC (.int 1))) (dC (.int 2)))) 6) dNext) (dSeq (dAsg (dTup (dCons (dOp ixD (dTup (dCons (dC (.str "doze")) (dCons (dC (.str "wake")) (dCons (dC (.str "fog")) (dCons (dC (.str "lift")) (dCons (dC (.str "doze")) (dCons (dC (.str "fog")) dNil))))))) (dOp modD (dOp ixD (dVar 5) (dC (.int 0))) (dC (.int 6)))) (dCons (dVar 6) dNil))) 7) (dSeq (dAsg (dCall sp__law_sky_deed W' (dCons (dVar 3) (dCons (dVar 7) dNil))) 8) (dSeq (dIf (dNot (dB (dCall (sp_like 3) W' (dCons (dCall ((sp__law_tried K)) W' (dCons (dVar 2) (dCons (dVar 7) dNil))) (dCons (dVar 8) dNil))))) (dRet (dC (.bl false))) dNext) (dSeq (dAsg (dLst (dCons (dMeth (He.ga K "Line") "asleep" (sp_Line_asleep K) W' (dVar 2) dNil) (dCons (dMeth (He.ga K "Line") "fogs" (sp_Line_fogs K) W' (dVar 2) dNil) dNil))) 9) (dSeq (dIf (dAnd (dB (dOp gtD (dOp modD (dOp ixD (dVar 5) (dC (.int 2))) (dC (.int 4))) (dC (.int 0)))) (dNot (dB (dCall (sp_like 3) W' (dCons (dVar 9) (dCons (dLst (dCons (dOp ixD (dVar 3) (dC (.str "asleep"))) (dCons (dOp ixD (dVar 3) (dC (.str "fogs"))) dNil))) dNil)))))) (dRet (dC (.bl false))) dNext) (dSeq (dDrop (dBM "list" appD (dOp ixD (dVar 9) (dC (.int 0))) (dCons (dC (.int 0)) dNil))) (dDrop (dBM "list" appD (dOp ixD (dVar 9) (dC (.int 1))) (dCons (dC (.int 0)) dNil))))))))))))) (dRet (dCall (sp_like 3) W' (dCons (dLst (dCons (dMeth (He.ga K "Line") "asleep" (sp_Line_asleep K) W' (dVar 2) dNil) (dCons (dMeth (He.ga K "Line") "fogs" (sp_Line_fogs K) W' (dVar 2) dNil) dNil))) (dCons (dLst (dCons (dOp ixD (dVar 3) (dC (.str "asleep"))) (dCons (dOp ixD (dVar 3) (dC (.str "fogs"))) dNil))) dNil))))))))
theorem red__law_do {K : PySem.W.Frag} : ∀ ds w Q E, sp__law_do K ds w Q E → t__law_do K E { nx := fun _ w1 => Q .non w1, rt := Q } (startD ["_law_line", "_law_deed"] ds) w := by
  rintro ds w Q E ⟨A, L, k, i, rfl, hL, hr, h1, h2, q⟩
  have h0 : w A.p = some (.ins (lnC K) (lnF A L.s)) := hL.at 0
  unfold t__law_do
  cases k with
  | doze =>
    simp only [Sky.nm]
    walk_at "ls"
    refine ⟨A, L, i, rfl, hL, hr, by omega, ?_⟩
    dsimp only [Sky.no] at q
    by_cases hi : 0 ≤ i ∧ i < L.s.len
    · rw [if_pos hi] at q ⊢
      by_cases hm : i ∈ L.s.sl
      · rw [if_pos hm] at q ⊢; exact q
      · rw [if_neg hm] at q ⊢; exact q
    · rw [if_neg hi] at q ⊢; exact q
  | wake =>
    simp only [Sky.nm]
    walk_at "ls"
    refine ⟨A, L, i, rfl, hL, hr, ?_⟩
    dsimp only [Sky.no] at q
    by_cases hi : 0 ≤ i ∧ i < L.s.len
    · rw [if_pos hi] at q ⊢
      by_cases hm : i ∈ L.s.sl
      · rw [if_pos hm] at q ⊢; exact q
      · rw [if_neg hm] at q ⊢; exact q
    · rw [if_neg hi] at q ⊢; exact q
  | fog =>
    simp only [Sky.nm]
    walk_at "ls"
    refine ⟨A, L, i, rfl, hL, hr, by omega, ?_⟩
    dsimp only [Sky.no] at q
    by_cases hi : 0 ≤ i ∧ i < L.s.len - 1
    · rw [if_pos hi] at q ⊢
      by_cases hm : i ∈ L.s.cl
      · rw [if_pos hm] at q ⊢; exact q
      · rw [if_neg hm] at q ⊢; exact q
    · rw [if_neg hi] at q ⊢; exact q
  | lift =>
    simp only [Sky.nm]
    walk_at "ls"
    refine ⟨A, L, i, rfl, hL, hr, ?_⟩
    dsimp only [Sky.no] at q
    by_cases hi : 0 ≤ i ∧ i < L.s.len - 1
    · rw [if_pos hi] at q ⊢
      by_cases hm : i ∈ L.s.cl
      · rw [if_pos hm] at q ⊢; exact q
      · rw [if_neg hm] at q ⊢; exact q
    · rw [if_neg hi] at q ⊢; exact q
theorem Sky.no_in {m : Int} {as fs : List Int} {i : Int} {k : Sky} {e : Str} (h : k.no m as fs i = some e) : e ∈ N23 := by
  cases k with
  | doze =>
    dsimp only [Sky.no] at h
    split at h
    · split at h
      · cases h; exact List.mem_of_getElem? (i := 8) rfl
      · cases h
    · cases h; exact List.mem_of_getElem? (i := 4) rfl
  | wake =>
    dsimp only [Sky.no] at h
    split at h
    · split at h
      · cases h
      · cases h; exact List.mem_of_getElem? (i := 9) rfl
    · cases h; exact List.mem_of_getElem? (i := 4) rfl
  | fog =>
    dsimp only [Sky.no] at h
    split at h
    · split at h
      · cases h; exact List.mem_of_getElem? (i := 10) rfl
      · cases h
    · cases h; exact List.mem_of_getElem? (i := 4) rfl
  | lift =>
    dsimp only [Sky.no] at h
    split at h
    · split at h
      · cases h
      · cases h; exact List.mem_of_getElem? (i := 11) rfl
    · cases h; exact List.mem_of_getElem? (i := 4) rfl
theorem red__law_tried {K : PySem.W.Frag} (hX : X23 K) : ∀ ds w Q E, sp__law_tried K ds w Q E → t__law_tried K E { nx := fun _ w1 => Q .non w1, rt := Q } (startD ["_law_line", "_law_deed", "_law_told", "_law_e"] ds) w := by
  rintro ds w Q E ⟨A, L, k, i, rfl, hL, hr, h1, h2, q⟩
  unfold t__law_tried
  walk_at "td"
  refine ⟨by decide, fun S2 w2 => ∃ r o, S2 = [some (.ref A.p), some (.tup [.str k.nm, .int i]), some r, o] ∧ Q r w2, ?_, ?_⟩
  · unfold dTryAs
    walk_at "td"
    refine ⟨A, L, k, i, rfl, hL, hr, h1, h2, ?_⟩
    cases hk : k.no L.s.len L.s.sl L.s.cl i with
    | some e =>
      rw [hk] at q
      have he := Sky.no_in hk
      refine ⟨true, hX.m e he, fun _ a ha => ?_, fun z => nomatch z⟩
      refine ⟨rfl, e, he, rfl, rfl, small (by show (2 : Nat) ≤ _; omega), ?_⟩
      exact ⟨_, _, rfl, q⟩
    | none =>
      rw [hk] at q
      intro w1 A1 st
      exact ⟨small (by show (2 : Nat) ≤ _; omega), _, _, rfl, q w1 A1 st⟩
  · rintro S2 w2 ⟨r, o, rfl, q⟩
    walk_at "td"
    exact q
theorem red__law_sky_deed : ∀ ds w Q E, sp__law_sky_deed ds w Q E → t__law_sky_deed E { nx := fun _ w1 => Q .non w1, rt := Q } (startD ["_law_state", "_law_deed", "_law_key", "_law_most", "_law_there"] ds) w := by
  rintro ds w Q E ⟨s, ra, rf, m, as, fs, k, i, rfl, ⟨hs, ha, hf, ne⟩, la, lf, q⟩
  unfold t__law_sky_deed
  have fa : (as.map D.int).all flatD = true := all_ints _
  have ff : (fs.map D.int).all flatD = true := all_ints _
  have sra : s ≠ ra := fun z => by rw [z, ha] at hs; cases hs
  have srf : s ≠ rf := fun z => by rw [z, hf] at hs; cases hs
  cases k with
  | doze =>
    simp only [Sky.nm]
    walk_at "ls"
    dsimp only [Sky.no] at q
    by_cases h1 : 0 ≤ i ∧ i < m
    · rw [if_pos h1] at q
      rw [if_pos h1.1, if_neg (by omega)]
      by_cases h2 : i ∈ as
      · rw [if_pos h2] at q ⊢
        dsimp only at q
        unfold dDisp
        walk_at "ls"
        intro d hd
        have d1 := ne_new hs hd
        walk_at "ls"
        exact q _ (Grow.put hd)
      · rw [if_neg h2] at q ⊢
        dsimp only at q
        refine ⟨small (by rw [List.length_map]; omega), ?_⟩
        rw [show List.map D.int as ++ [D.int i] = (as ++ [i]).map D.int by rw [List.map_append]; rfl, sortDO_l]
        intro ms p hp1 hp2 hp
        have d1 := ne_new hs hp
        have d2 := ne_new ha hp
        have d3 := ne_new hf hp
        walk_at "ls"
        refine q _ p rf ms fs ⟨?_, ?_, ?_, ?_⟩ (fun a n h z1 z2 z3 => ?_) (.inr hp) (.inl rfl) ⟨hp1, hp2, rfl⟩
        · walk_at "fin"
        · walk_at "fin"
        · walk_at "fin"
        · exact Ne.symm d3
        · have d4 := ne_new h hp
          walk_at "fin"
    · rw [if_neg h1] at q
      dsimp only at q
      by_cases h3 : 0 ≤ i
      · rw [if_pos h3, if_pos (by omega)]; exact q _ (Grow.refl _)
      · rw [if_neg h3]; exact q _ (Grow.refl _)
  | wake =>
    simp only [Sky.nm]
    walk_at "ls"
    dsimp only [Sky.no] at q
    by_cases h1 : 0 ≤ i ∧ i < m
    · rw [if_pos h1] at q
      rw [if_pos h1.1, if_neg (by omega)]
      by_cases h2 : i ∈ as
      · rw [if_pos h2] at q
        rw [if_neg (not_not_intro h2)]
        dsimp only at q
        refine ⟨dTy_w ha, as, rfl, h2, ?_⟩
        refine q _ ra rf (as.erase i) fs ⟨?_, ?_, ?_, ne⟩ (fun a n h z1 z2 z3 => ?_) (.inl rfl) (.inl rfl) ⟨rfl, rfl⟩
        · walk_at "fin"
        · walk_at "fin"
        · walk_at "fin"
        · walk_at "fin"
      · rw [if_neg h2] at q
        rw [if_pos h2]
        dsimp only at q
        unfold dDisp
        walk_at "ls"
        intro d hd
        have d1 := ne_new hs hd
        walk_at "ls"
        exact q _ (Grow.put hd)
    · rw [if_neg h1] at q
      dsimp only at q
      by_cases h3 : 0 ≤ i
      · rw [if_pos h3, if_pos (by omega)]; exact q _ (Grow.refl _)
      · rw [if_neg h3]; exact q _ (Grow.refl _)
  | fog =>
    simp only [Sky.nm]
    walk_at "ls"
    dsimp only [Sky.no] at q
    by_cases h1 : 0 ≤ i ∧ i < m - 1
    · rw [if_pos h1] at q
      rw [if_pos h1.1, if_neg (by omega)]
      by_cases h2 : i ∈ fs
      · rw [if_pos h2] at q ⊢
        dsimp only at q
        unfold dDisp
        walk_at "ls"
        intro d hd
        have d1 := ne_new hs hd
        walk_at "ls"
        exact q _ (Grow.put hd)
      · rw [if_neg h2] at q ⊢
        dsimp only at q
        refine ⟨small (by rw [List.length_map]; omega), ?_⟩
        rw [show List.map D.int fs ++ [D.int i] = (fs ++ [i]).map D.int by rw [List.map_append]; rfl, sortDO_l]
        intro ms p hp1 hp2 hp
        have d1 := ne_new hs hp
        have d2 := ne_new ha hp
        have d3 := ne_new hf hp
        walk_at "ls"
        refine q _ ra p as ms ⟨?_, ?_, ?_, ?_⟩ (fun a n h z1 z2 z3 => ?_) (.inl rfl) (.inr hp) ⟨hp1, hp2, rfl⟩
        · walk_at "fin"
        · walk_at "fin"
        · walk_at "fin"
        · exact d2
        · have d4 := ne_new h hp
          walk_at "fin"
    · rw [if_neg h1] at q
      dsimp only at q
      by_cases h3 : 0 ≤ i
      · rw [if_pos h3, if_pos (by omega)]; exact q _ (Grow.refl _)
      · rw [if_neg h3]; exact q _ (Grow.refl _)
  | lift =>
    simp only [Sky.nm]
    walk_at "ls"
    dsimp only [Sky.no] at q
    by_cases h1 : 0 ≤ i ∧ i < m - 1
    · rw [if_pos h1] at q
      rw [if_pos h1.1, if_neg (by omega)]
      by_cases h2 : i ∈ fs
      · rw [if_pos h2] at q
        rw [if_neg (not_not_intro h2)]
        dsimp only at q
        refine ⟨dTy_w hf, fs, rfl, h2, ?_⟩
        refine q _ ra rf as (fs.erase i) ⟨?_, ?_, ?_, ne⟩ (fun a n h z1 z2 z3 => ?_) (.inl rfl) (.inl rfl) ⟨rfl, rfl⟩
        · walk_at "fin"
        · walk_at "fin"
        · walk_at "fin"
        · walk_at "fin"
      · rw [if_neg h2] at q
        rw [if_pos h2]
        dsimp only at q
        unfold dDisp
        walk_at "ls"
        intro d hd
        have d1 := ne_new hs hd
        walk_at "ls"
        exact q _ (Grow.put hd)
    · rw [if_neg h1] at q
      dsimp only at q
      by_cases h3 : 0 ≤ i
      · rw [if_pos h3, if_pos (by omega)]; exact q _ (Grow.refl _)
      · rw [if_neg h3]; exact q _ (Grow.refl _)
theorem srt_eq : ∀ {l m : List Int}, l.Perm m → l.Pairwise (· ≤ ·) → m.Pairwise (· ≤ ·) → l = m
  | [], m, h, _, _ => h.nil_eq
  | a :: l, [], h, _, _ => (h.symm.nil_eq).symm
  | a :: l, b :: m, h, h1, h2 => by
    rw [List.pairwise_cons] at h1 h2
    have ha : a ∈ b :: m := h.mem_iff.mp (List.mem_cons_self ..)
    have hb : b ∈ a :: l := h.mem_iff.mpr (List.mem_cons_self ..)
    have e : a = b := by
      rcases List.mem_cons.mp ha with z | z
      · exact z
      · rcases List.mem_cons.mp hb with y | y
        · exact y.symm
        · have := h1.1 b y
          have := h2.1 a z
          omega
    subst e
    rw [srt_eq (List.perm_cons a |>.mp h) h1.2 h2.2]
structure K25 (K : PySem.W.Frag) (w : Wd) (A : LA) (L : LL) (s ra rf : Addr) (m : Int) (as fs : List Int) (n : Nat) : Prop where
  ln : LnAt K w A L
  sk : SkAt w s ra rf m as fs
  ds : s ∉ A.all
  da : ra ∉ A.all
  df : rf ∉ A.all
  pa : as.Perm L.s.sl
  pf : fs.Perm L.s.cl
  sa : as.Pairwise (· ≤ ·)
  sf : fs.Pairwise (· ≤ ·)
  na : as.Nodup
  nf : fs.Nodup
  le : L.s.len = m
  m0 : 2 ≤ m
  m1 : m ≤ 12
  g0 : L.s.bk.gone = []
  p0 : L.s.ph = []
  lt : L.s.told.length ≤ n
  lp : L.past.length ≤ n
  la : as.length ≤ n
  lf : fs.length ≤ n
theorem LnAt.gro {K : PySem.W.Frag} {w w1 : Wd} {A : LA} {L : LL} (h : LnAt K w A L) (g : Grow w w1) : LnAt K w1 A L := ⟨h.nd, fun x hx => g _ _ (h.all x hx)⟩
theorem SkAt.gro {w w1 : Wd} {s ra rf : Addr} {m : Int} {as fs : List Int} (h : SkAt w s ra rf m as fs) (g : Grow w w1) : SkAt w1 s ra rf m as fs := ⟨g _ _ h.s, g _ _ h.a, g _ _ h.f, h.ne⟩
theorem K25.gro {K : PySem.W.Frag} {w w1 : Wd} {A : LA} {L : LL} {s ra rf : Addr} {m : Int} {as fs : List Int} {n : Nat} (h : K25 K w A L s ra rf m as fs n) (g : Grow w w1) (n1 : Nat) (hn : n ≤ n1) : K25 K w1 A L s ra rf m as fs n1 :=
  ⟨h.ln.gro g, h.sk.gro g, h.ds, h.da, h.df, h.pa, h.pf, h.sa, h.sf, h.na, h.nf, h.le, h.m0, h.m1, h.g0, h.p0, Nat.le_trans h.lt hn, Nat.le_trans h.lp hn, Nat.le_trans h.la hn, Nat.le_trans h.lf hn⟩
theorem K25.room {K : PySem.W.Frag} {w : Wd} {A : LA} {L : LL} {s ra rf : Addr} {m : Int} {as fs : List Int} {n : Nat} (h : K25 K w A L s ra rf m as fs n) (hn : n ≤ 1000) : LRoom L := by
  have h1 := h.m0
  have h2 := h.m1
  have h3 := h.le
  have h4 := h.lt
  have h5 := h.lp
  exact ⟨⟨by omega, by omega, by rw [h.g0]; exact hash_nil, by rw [h.p0]; exact hash_nil⟩, by omega, by omega⟩
theorem Sky.no_eq {K : PySem.W.Frag} {w : Wd} {A : LA} {L : LL} {s ra rf : Addr} {m : Int} {as fs : List Int} {n : Nat} (h : K25 K w A L s ra rf m as fs n) (k : Sky) (i : Int) : k.no L.s.len L.s.sl L.s.cl i = k.no m as fs i := by
  have e1 : ∀ x, (x ∈ L.s.sl) = (x ∈ as) := fun x => propext h.pa.mem_iff.symm
  have e2 : ∀ x, (x ∈ L.s.cl) = (x ∈ fs) := fun x => propext h.pf.mem_iff.symm
  have h3 := h.le
  cases k <;> dsimp only [Sky.no] <;> simp only [e1, e2, h3]
/-- a deed that is done -/
theorem K25.go {K : PySem.W.Frag} {w w1 w2 : Wd} {A A2 : LA} {L : LL} {s ra rf ra1 rf1 : Addr} {m : Int} {as fs as1 fs1 : List Int} {n : Nat} {k : Sky} {i : Int} (h : K25 K w A L s ra rf m as fs n) (hk : k.no m as fs i = none)
    (h1 : SkAt w1 s ra1 rf1 m as1 fs1) (fr : ∀ a n, w a = some n → a ≠ s → a ≠ ra → a ≠ rf → w1 a = some n) (hra : ra1 = ra ∨ w ra1 = none) (hrf : rf1 = rf ∨ w rf1 = none) (ow : k.own as fs i as1 fs1) (st : LStep K w1 A w2 A2 (k.go L i)) :
    K25 K w2 A2 (k.go L i) s ra1 rf1 m as1 fs1 (n + 1) := by
  have nA : ∀ x, w x = none → x ∉ A.all := fun x hx => h.ln.new hx
  have da1 : ra1 ∉ A.all := hra.elim (fun e => by rw [e]; exact h.da) (nA _)
  have df1 : rf1 ∉ A.all := hrf.elim (fun e => by rw [e]; exact h.df) (nA _)
  have out : ∀ x nd, w1 x = some nd → x ∉ A.all → x ∉ A2.all := fun x nd hx hA z => (st.nw x z).elim hA fun e => by rw [e] at hx; cases hx
  have sk2 : SkAt w2 s ra1 rf1 m as1 fs1 := ⟨st.fr _ _ h1.s h.ds, st.fr _ _ h1.a da1, st.fr _ _ h1.f df1, h1.ne⟩
  have hnl : L.s.sl.Nodup := h.pa.nodup_iff.mp h.na
  have hcl : L.s.cl.Nodup := h.pf.nodup_iff.mp h.nf
  have ef : ∀ (l : List Int), l.Nodup → l.filter (fun x => decide (x ≠ i)) = l.erase i := fun l hl => by
    rw [hl.erase_eq_filter]
    apply List.filter_congr
    intro x _
    by_cases e : x = i
    · simp [e]
    · simp [e]
  have lt := h.lt
  have lp := h.lp
  have la := h.la
  have lf := h.lf
  cases k with
  | doze =>
    obtain ⟨o1, o2, rfl⟩ := ow
    have hni : i ∉ as := by
      dsimp only [Sky.no] at hk
      split at hk
      · split at hk
        · cases hk
        · assumption
      · cases hk
    refine ⟨st.at', sk2, out _ _ h1.s h.ds, out _ _ h1.a da1, out _ _ h1.f df1, o1.trans (h.pa.append_right _), h.pf, o2, h.sf, o1.nodup_iff.mpr (nd_snoc h.na hni), h.nf, h.le, h.m0, h.m1, h.g0, h.p0, ?_, ?_, ?_, by omega⟩
    · show (L.s.told ++ [_]).length ≤ _; rw [List.length_append]; show _ + 1 ≤ _; omega
    · show (L.past ++ [_]).length ≤ _; rw [List.length_append]; show _ + 1 ≤ _; omega
    · rw [o1.length_eq, List.length_append]; show _ + 1 ≤ _; omega
  | wake =>
    obtain ⟨rfl, rfl⟩ := ow
    refine ⟨st.at', sk2, out _ _ h1.s h.ds, out _ _ h1.a da1, out _ _ h1.f df1, ?_, h.pf, h.sa.sublist List.erase_sublist, h.sf, h.na.sublist List.erase_sublist, h.nf, h.le, h.m0, h.m1, h.g0, h.p0, ?_, ?_, ?_, by omega⟩
    · show (as.erase i).Perm (L.s.sl.filter _); rw [ef _ hnl]; exact h.pa.erase i
    · show (L.s.told ++ [_]).length ≤ _; rw [List.length_append]; show _ + 1 ≤ _; omega
    · show (L.past ++ [_]).length ≤ _; rw [List.length_append]; show _ + 1 ≤ _; omega
    · have := (List.erase_sublist (a := i) (l := as)).length_le; omega
  | fog =>
    obtain ⟨o1, o2, rfl⟩ := ow
    have hni : i ∉ fs := by
      dsimp only [Sky.no] at hk
      split at hk
      · split at hk
        · cases hk
        · assumption
      · cases hk
    refine ⟨st.at', sk2, out _ _ h1.s h.ds, out _ _ h1.a da1, out _ _ h1.f df1, h.pa, o1.trans (h.pf.append_right _), h.sa, o2, h.na, o1.nodup_iff.mpr (nd_snoc h.nf hni), h.le, h.m0, h.m1, h.g0, h.p0, ?_, ?_, by omega, ?_⟩
    · show (L.s.told ++ [_]).length ≤ _; rw [List.length_append]; show _ + 1 ≤ _; omega
    · show (L.past ++ [_]).length ≤ _; rw [List.length_append]; show _ + 1 ≤ _; omega
    · rw [o1.length_eq, List.length_append]; show _ + 1 ≤ _; omega
  | lift =>
    obtain ⟨rfl, rfl⟩ := ow
    refine ⟨st.at', sk2, out _ _ h1.s h.ds, out _ _ h1.a da1, out _ _ h1.f df1, h.pa, ?_, h.sa, h.sf.sublist List.erase_sublist, h.na, h.nf.sublist List.erase_sublist, h.le, h.m0, h.m1, h.g0, h.p0, ?_, ?_, by omega, ?_⟩
    · show (fs.erase i).Perm (L.s.cl.filter _); rw [ef _ hcl]; exact h.pf.erase i
    · show (L.s.told ++ [_]).length ≤ _; rw [List.length_append]; show _ + 1 ≤ _; omega
    · show (L.past ++ [_]).length ≤ _; rw [List.length_append]; show _ + 1 ≤ _; omega
    · have := (List.erase_sublist (a := i) (l := fs)).length_le; omega
end TD

set_option maxHeartbeats 4000000
namespace TD
open PySem PySem.Spec PyProof.Rows L2
local macro_rules | `(tactic| walk_at "td") => `(tactic| simp only [dSeq, dIf, dB, dOp, dUn, dCB, dVar, dC, dRet, dRetN, dNext, dDrop, dAsg, dAnd, dOr, dNot, dAndV, dOrV, dNotV, dIfE, dChain, dCons, dNil, dTup, dLst, dLstO, dCall, dSl, dPart, dNoPart, dBM, dBM0, dAug, dAsgG, dgName, dgTup, setAll, dCont, dBreak,
  addD_ii, addD_ss, addD_tt, addD_ll, subD_ii, mulD_ii, mulD_li, fdivD_ii, modD_ii, powD_ii, negD_i, ltD_ii, leD_ii, gtD_ii, geD_ii, eqD_ii, eqD_ss, eqD_bb, eqD_nn, eqD_ni, eqD_in, isN_x, isNon_non, isNon_int, isNon_str, isNon_bl, isNon_lst, isNon_tup, isNon_ref, lenD_l, lenD_r, lenD_t, lenD_s, slD_l, slD_t, slD_s, listD_l, listD_r, listD_t, listD_lO, listD_tO, tupleD_l, tupleD_t, sumD_l, allD_l, maxD_ii, minD_ii, absD_i, atSeq_l, atSeq_r, wipeD, dTy_put, app_put, true_and, and_true, dFrz, put_same, Option.bind_some, frzD_lst,
  startD, List.map_cons, List.map_nil, List.cons_append, List.nil_append, List.length_cons, List.length_nil, List.getElem?_cons_zero, List.getElem?_cons_succ, List.set_cons_zero, List.set_cons_succ, List.replicate_succ, List.replicate_zero, List.append_nil, Nat.reduceAdd, Nat.reduceSub, Int.reduceToNat, decide_eq_true_eq, Bool.false_bne, Bool.true_bne, Bool.not_eq_true', Bool.not_eq_true, decide_eq_false_iff_not, Bool.false_eq_true, Bool.true_eq_false, if_true, if_false, ite_true, ite_false, reduceIte])
local macro_rules | `(tactic| walk_at "leaf") => `(tactic| (intro Q q; first | exact q | exact ⟨by omega, q⟩ | exact ⟨⟨by omega, by omega⟩, q⟩ | exact ⟨.inl ⟨by omega, by omega⟩, q⟩ | exact ⟨.inr ⟨by omega, by omega⟩, q⟩ | (rw [ixD_l (atI_ints (by first | omega | grind) (by first | omega | grind))]; exact q) | (rw [inD_lst rfl (all_ints _), inL_ints]; exact q) | (rw [lenD_l, List.length_map]; exact q) | (rw [lenD_r, List.length_map]; exact q)))
local macro_rules | `(tactic| walk_at "ev") => `(tactic| repeat' (first | exact eve_var rfl | exact eve_c | exact eva_nil | apply evt_and | apply evt_or | apply evt_not | apply evt_B | apply eva_cons | apply eve_and | apply eve_or | apply eve_not | apply eve_chain | apply eve_op | apply eve_un | apply eve_cb | (refine Gd.mk (fun _ => ?_)) | (refine Gn.mk (fun _ => ?_)) | walk_at "leaf"))
local macro_rules | `(tactic| walk_at "bl") => `(tactic| simp only [Bool.false_bne, Bool.true_bne, Bool.and_eq_true, Bool.or_eq_true, Bool.and_eq_false_iff, Bool.or_eq_false_iff, Bool.not_eq_true', Bool.not_eq_false', Bool.not_not, decide_eq_true_eq, decide_eq_false_iff_not] at *)
local macro_rules | `(tactic| walk_at "ls") => `(tactic| try simp (config := {decide := true}) only [dSeq, dIf, dB, dOp, dUn, dCB, dVar, dC, dRet, dRetN, dNext, dDrop, dAsg, dAnd, dOr, dNot, dAndV, dOrV, dNotV, dIfE, dChain, dCons, dNil, dTup, dLst, dLstO, dCall, dSl, dPart, dNoPart, dBM, dBM0, dAug, dAsgG, dgName, dgTup, setAll, dCont, dBreak,
  addD_ii, addD_ss, addD_tt, addD_ll, subD_ii, mulD_ii, mulD_li, fdivD_ii, modD_ii, powD_ii, negD_i, ltD_ii, leD_ii, gtD_ii, geD_ii, eqD_ii, eqD_ss, eqD_bb, eqD_nn, eqD_ni, eqD_in, isN_x, isNon_non, isNon_int, isNon_str, isNon_bl, isNon_lst, isNon_tup, isNon_ref, lenD_l, lenD_r, lenD_t, lenD_s, slD_l, slD_t, slD_s, listD_l, listD_r, listD_t, listD_lO, listD_tO, tupleD_l, tupleD_t, sumD_l, allD_l, maxD_ii, minD_ii, absD_i, atSeq_l, atSeq_r, wipeD, dTy_put, app_put, true_and, and_true, dFrz, put_same, Option.bind_some, frzD_lst,
  startD, List.map_cons, List.map_nil, List.cons_append, List.nil_append, List.length_cons, List.length_nil, List.getElem?_cons_zero, List.getElem?_cons_succ, List.set_cons_zero, List.set_cons_succ, List.replicate_succ, List.replicate_zero, List.append_nil, Nat.reduceAdd, Nat.reduceSub, Int.reduceToNat, decide_eq_true_eq, Bool.false_bne, Bool.true_bne, Bool.not_eq_true', Bool.not_eq_true, decide_eq_false_iff_not, Bool.false_eq_true, Bool.true_eq_false, if_true, if_false, ite_true, ite_false, reduceIte,
  atO_q, insK_s, getF_hd, getF_tl, putD_nil, putD_hd, putD_tl, look_hd, look_tl, look_nil, put_same, put_put, put_ne, put_en, ne_eq, not_false_eq_true, not_true_eq_false, true_and, and_true, dFld, dFldS, dNewK, dNewT, dMeth, dMake, dSetK, dPopK, dGet1, ixD_ref, ixNd_l, ixNd_ks, ixNd_ki, ixNd_t1, ixNd_t2, ixNd_t3, inD_ref, inNd_ks, inNd_ki, inNd_t2, inNd_t3, lenD_ref, lenNd_l, lenNd_k, listD_ref, lisNd_l, lisNd_o, tupleD_ref, tupNd_l, appD_1, popD_0, clrD_0, atL_ref, atLd_l, dPutAt_ref, putNd_ks, putNd_ki, putNd_t1, putNd_t2, putNd_t3, dPopAt_ref, popNd_ki, popNd_ks, popNd_t2, popNd_t3, isDc_ref, isDn_k, isDn_t, copyK_q, copyT_q, copNd_o, copNd_f, cotNd_o, cotNd_f, sortN_q, srtNd_k, sortNO_q, sroNd_k, addD_wl, lstOf_l, inD_tup, inL_nl, inL_sc, inNd_li, intD_b, decide_true, decide_false, Bool.true_or, Bool.false_or, Bool.or_false, Bool.or_true, Bool.not_true, Bool.not_false, Bool.true_and, Bool.and_true, Bool.false_and, Bool.and_false, remD_1, mulDO_li, ixT_0, ixT_1, ixT_2, ixT_3, ixL_0, ixL_1, ixL_2, ixL_3, valD_hd, valD_tl, valD_nil, setK_nil, setK_1, setK_20, setK_21, setK_30, setK_31, setK_32, optD_s, Option.isSome_some, Option.isSome_none, *])
local macro_rules | `(tactic| walk_at "fin") => `(tactic| simp (config := {decide := true}) only [put_same, put_ne, put_en, rid_same, rid_en, put_eqn, ne_eq, not_false_eq_true, not_true_eq_false, true_and, and_true, and_self, implies_true, List.forall_mem_cons, List.not_mem_nil, false_implies, List.nodup_cons, List.mem_cons, or_false, or_self, List.nodup_nil, *])
theorem red_law {K : PySem.W.Frag} : ∀ ds w Q E, sp_law ds w Q E → t_law K E { nx := fun _ w1 => Q .non w1, rt := Q } (startD ["_law_script", "_law_masts", "_law_line", "_law_state", "_law_at", "_law_nums", "_law_spot", "_law_deed", "_law_due", "_law_found"] ds) w := by
  rintro ds w Q E ⟨ns, rfl, hl, q⟩
  unfold t_law
  walk_at "ls"
  refine ⟨ns, 0, rfl, by omega, by omega, ?_⟩
  generalize cellM ns 0 = c
  walk_at "ls"
  intro p hp
  refine ⟨p, 2 + c % 11, rfl, put_same, ?_⟩
  rw [if_pos (by omega)]
  intro w1 A eA hA gA
  refine ⟨rfl, ?_⟩
  subst eA
  have g1 : ∀ a n, w a = some n → w1 a = some n := fun a n h => gA.1 a n (by rw [rid_put hp]; exact h)
  generalize hm : 2 + c % 11 = m at *
  walk_at "ls"
  unfold dDisp
  walk_at "ls"
  intro s hs ra hra
  simp only [put_eqn] at hra
  intro rf hrf
  simp only [put_eqn] at hrf
  walk_at "ls"
  have k0 : K25 K (put (put (put (put w1 s (.dK [])) ra (.lst [])) rf (.lst [])) s (.dK ([(.inr "masts" : L2.Key), .inr "asleep", .inr "fogs"].zip [.int m, .ref ra, .ref rf]))) A (LL.new m) s ra rf m [] [] 0 := by
    have a1 := hA.putN (n := .dK []) (hA.new hs)
    have a2 := a1.putN (n := .lst []) (hA.new hra.2)
    have a3 := a2.putN (n := .lst []) (hA.new hrf.2.2)
    have a4 := a3.putN (n := .dK ([(.inr "masts" : L2.Key), .inr "asleep", .inr "fogs"].zip [.int m, .ref ra, .ref rf])) (hA.new hs)
    refine ⟨a4, ⟨?_, ?_, ?_, Ne.symm hrf.1⟩, hA.new hs, hA.new hra.2, hA.new hrf.2.2, .nil, .nil, .nil, .nil, List.nodup_nil, List.nodup_nil, rfl, by omega, by omega, rfl, rfl, Nat.le_refl _, Nat.le_refl _, Nat.le_refl _, Nat.le_refl _⟩
    · walk_at "fin"; rfl
    · walk_at "fin"; rfl
    · walk_at "fin"; rfl
  revert k0
  generalize put (put (put (put w1 s (.dK [])) ra (.lst [])) rf (.lst [])) s (.dK ([(.inr "masts" : L2.Key), .inr "asleep", .inr "fogs"].zip [.int m, .ref ra, .ref rf])) = w2
  intro k0
  let B : Int := if (if (ns.length : Int) < 61 then (ns.length : Int) else 61) > 16 then (if (ns.length : Int) < 61 then (ns.length : Int) else 61) else 16
  have hB : B ≤ 61 ∧ 16 ≤ B := by
    show (if (if (ns.length : Int) < 61 then (ns.length : Int) else 61) > 16 then (if (ns.length : Int) < 61 then (ns.length : Int) else 61) else 16) ≤ 61 ∧ _ ≤ (if (if (ns.length : Int) < 61 then (ns.length : Int) else 61) > 16 then (if (ns.length : Int) < 61 then (ns.length : Int) else 61) else (16 : Int))
    split <;> split <;> omega
  refine dFor_r2 (a := 1) (b := B) (Iv := fun j S2 v => ∃ (A : LA) (L : LL) (ra rf : Addr) (as fs : List Int) (o4 o5 o6 o7 o8 o9 : Option D), S2 = [some (.rol (ns.map D.int)), some (.int m), some (.ref A.p), some (.ref s), o4, o5, o6, o7, o8, o9] ∧ K25 K v A L s ra rf m as fs j) ?_ ⟨by omega, by omega, by omega, by omega⟩ ⟨A, LL.new m, ra, rf, [], [], _, _, _, _, _, _, rfl, k0⟩ ?_ ?_
  · intro R h
    walk_at "ls"
    rw [List.length_map]
    exact h
  · rintro j S2 v hj ⟨A, L, ra, rf, as, fs, o4, o5, o6, o7, o8, o9, rfl, k⟩
    walk_at "ls"
    refine ⟨ns, 1 + j, rfl, by omega, by omega, ?_⟩
    generalize cellM ns (1 + ↑j) = cj
    refine ⟨cj, 3, 9240, rfl, by omega, by omega, by omega, ?_⟩
    obtain ⟨n0, n1, n2, er, b0, b1, b2⟩ : ∃ n0 n1 n2 : Int, rowM cj 3 9240 = [n0, n1, n2] ∧ (0 ≤ n0 ∧ n0 < 9240) ∧ (0 ≤ n1 ∧ n1 < 9240) ∧ (0 ≤ n2 ∧ n2 < 9240) := by
      have hlen : (rowM cj 3 9240).length = 3 := rowM_len (by omega)
      have hmem := rowM_mem (c := cj) (many := 3) (size := 9240) (by omega)
      match hr : rowM cj 3 9240, hlen with
      | [a, b, c], _ => exact ⟨a, b, c, rfl, hmem a (by rw [hr]; simp), hmem b (by rw [hr]; simp), hmem c (by rw [hr]; simp)⟩
    rw [er]
    have hm3 := k.m0
    walk_at "ls"
    refine ⟨by omega, fun S3 w3 => w3 = v ∧ ∃ i : Int, S3 = [some (.rol (ns.map D.int)), some (.int m), some (.ref A.p), some (.ref s), some (.int (1 + j)), some (.lst [.int n0, .int n1, .int n2]), some (.int i), o7, o8, o9], ?_, ?_⟩
    · walk_at "ls"
      by_cases h29 : n2 % 29 = 0
      · rw [if_pos h29]
        refine ⟨⟨by decide, by decide, by decide⟩, ⟨by decide, by decide, by decide⟩, ?_⟩
        have e2 : n1 % 2 = 0 ∨ n1 % 2 = 1 := by omega
        rcases e2 with e2 | e2
        · rw [e2]
          walk_at "ls"
          exact ⟨_, rfl⟩
        · rw [e2]
          walk_at "ls"
          exact ⟨_, rfl⟩
      · rw [if_neg h29]
        exact ⟨_, rfl⟩
    · rintro S3 w3 ⟨rfl, i, rfl⟩
      walk_at "ls"
      obtain ⟨kd, ek⟩ : ∃ kd : Sky, atI [D.str "doze", .str "wake", .str "fog", .str "lift", .str "doze", .str "fog"] (n0 % 6) = some (.str kd.nm) := by
        have e6 : n0 % 6 = 0 ∨ n0 % 6 = 1 ∨ n0 % 6 = 2 ∨ n0 % 6 = 3 ∨ n0 % 6 = 4 ∨ n0 % 6 = 5 := by omega
        rcases e6 with e | e | e | e | e | e <;> rw [e]
        · exact ⟨.doze, rfl⟩
        · exact ⟨.wake, rfl⟩
        · exact ⟨.fog, rfl⟩
        · exact ⟨.lift, rfl⟩
        · exact ⟨.doze, rfl⟩
        · exact ⟨.fog, rfl⟩
      rw [ixD_t ek]
      walk_at "ls"
      have la := k.la
      have lf := k.lf
      have hj2 : j ≤ 60 := by omega
      refine ⟨s, ra, rf, m, as, fs, kd, i, rfl, k.sk, by omega, by omega, ?_⟩
      cases hk : kd.no m as fs i with
      | some e =>
        intro w1 g1
        have k1 := k.gro g1 (j + 1) (by omega)
        refine ⟨A, L, kd, i, rfl, k1.ln, k1.room (by omega), by rw [← k.pa.length_eq]; omega, by rw [← k.pf.length_eq]; omega, ?_⟩
        rw [Sky.no_eq k1, hk]
        refine ⟨_, _, rfl, like_tup2 (like_str _) (like_str _), ?_⟩
        have c0 : w1 A.p = some (.ins (lnC K) (lnF A L.s)) := k1.ln.at 0
        walk_at "ls"
        have l1 := k1.la
        have l2 := k1.lf
        refine ⟨A, L, rfl, k1.ln, by rw [← k1.pa.length_eq]; omega, fun ys p1 hy1 hy2 hp1 => ?_⟩
        obtain rfl := srt_eq (hy1.trans k1.pa.symm) hy2 k1.sa
        have k2 := k1.gro (Grow.put (n := .lst (ys.map D.int)) hp1) (j + 1) (Nat.le_refl _)
        have c1 : (put w1 p1 (.lst (ys.map D.int))) A.p = some (.ins (lnC K) (lnF A L.s)) := k2.ln.at 0
        simp only [c1, insK_s]
        refine ⟨rfl, A, L, rfl, k2.ln, by rw [← k2.pf.length_eq]; omega, fun zs p2 hz1 hz2 hp2 => ?_⟩
        obtain rfl := srt_eq (hz1.trans k2.pf.symm) hz2 k2.sf
        have k3 := k2.gro (Grow.put (n := .lst (zs.map D.int)) hp2) (j + 1) (Nat.le_refl _)
        have hp3 := put_eqn.mp hp2
        have k4 : K25 K (put (put (put (put w1 p1 (.lst (ys.map D.int))) p2 (.lst (zs.map D.int))) p1 (.lst (ys.map D.int ++ [.int 0]))) p2 (.lst (zs.map D.int ++ [.int 0]))) A L s ra rf m ys zs (j + 1) := by
          refine k1.gro (fun a n h => ?_) (j + 1) (Nat.le_refl _)
          have z1 := ne_new h hp1
          have z2 := ne_new h hp3.2
          walk_at "fin"
        have cs := k3.sk.s
        have ca := k3.sk.a
        have cf := k3.sk.f
        have tl : ∀ R : Wd → Prop, R (put (put (put (put w1 p1 (.lst (ys.map D.int))) p2 (.lst (zs.map D.int))) p1 (.lst (ys.map D.int ++ [.int 0]))) p2 (.lst (zs.map D.int ++ [.int 0]))) →
            (dTyOk "list" (put (put w1 p1 (.lst (ys.map D.int))) p2 (.lst (zs.map D.int))) (.ref p1) ∧ atL (put (put w1 p1 (.lst (ys.map D.int))) p2 (.lst (zs.map D.int))) (.ref p1) fun a xs => xs.length < sizeLine ∧
              dTyOk "list" (put (put (put w1 p1 (.lst (ys.map D.int))) p2 (.lst (zs.map D.int))) a (.lst (xs ++ [.int 0]))) (.ref p2) ∧ atL (put (put (put w1 p1 (.lst (ys.map D.int))) p2 (.lst (zs.map D.int))) a (.lst (xs ++ [.int 0]))) (.ref p2) fun b us => us.length < sizeLine ∧
                R (put (put (put (put w1 p1 (.lst (ys.map D.int))) p2 (.lst (zs.map D.int))) a (.lst (xs ++ [.int 0]))) b (.lst (us ++ [.int 0])))) := fun R r => by
          have q1 : (put (put w1 p1 (.lst (ys.map D.int))) p2 (.lst (zs.map D.int))) p1 = some (.lst (ys.map D.int)) := by walk_at "fin"
          have q2 : (put (put (put w1 p1 (.lst (ys.map D.int))) p2 (.lst (zs.map D.int))) p1 (.lst (ys.map D.int ++ [.int 0]))) p2 = some (.lst (zs.map D.int)) := by walk_at "fin"
          refine ⟨dTy_w q1, ?_⟩
          rw [atL_w q1]
          refine ⟨smallL (by rw [List.length_map]; omega), dTy_w q2, ?_⟩
          rw [atL_w q2]
          exact ⟨smallL (by rw [List.length_map]; omega), r⟩
        by_cases h4 : 0 < n2 % 4
        · simp only [if_pos h4, cs, ixNd_ks, valD_tl, valD_hd, optD_s]
          walk_at "ls"
          refine ⟨_, _, rfl, ?_, ?_⟩
          · refine .inr (.inr (.inr (.inr (.inr ⟨[.ref p1, .ref p2], [.ref ra, .ref rf], rfl, rfl, rfl, by show (2 : Nat) ≤ 100000; omega, fun i d e hd he => ?_⟩))))
            have g1 : getM (put (put w1 p1 (.lst (ys.map D.int))) p2 (.lst (zs.map D.int))) (.ref p1) = some (ys.map D.int) := by rw [getM_ref, put_en hp3.1, put_same]; rfl
            have g2 : getM (put (put w1 p1 (.lst (ys.map D.int))) p2 (.lst (zs.map D.int))) (.ref p2) = some (zs.map D.int) := by rw [getM_ref, put_same]; rfl
            have g3 : getM (put (put w1 p1 (.lst (ys.map D.int))) p2 (.lst (zs.map D.int))) (.ref ra) = some (ys.map D.int) := by rw [getM_ref, ca]; rfl
            have g4 : getM (put (put w1 p1 (.lst (ys.map D.int))) p2 (.lst (zs.map D.int))) (.ref rf) = some (zs.map D.int) := by rw [getM_ref, cf]; rfl
            match i with
            | 0 => cases hd; cases he; exact like_ints g1 g3 (by omega)
            | 1 => cases hd; cases he; exact like_ints g2 g4 (by omega)
            | n + 2 => cases hd
          · refine tl (fun w5 => ∃ (A : LA) (L : LL) (ra rf : Addr) (as fs : List Int) (o4 o5 o6 o7 o8 o9 : Option D), _ = [some (.rol (ns.map D.int)), some (.int m), some (.ref A.p), some (.ref s), o4, o5, o6, o7, o8, o9] ∧ K25 K w5 A L s ra rf m as fs (j + 1)) ?_
            exact ⟨A, L, ra, rf, ys, zs, _, _, _, _, _, _, rfl, k4⟩
        · simp only [if_neg h4]
          refine tl (fun w5 => ∃ (A : LA) (L : LL) (ra rf : Addr) (as fs : List Int) (o4 o5 o6 o7 o8 o9 : Option D), _ = [some (.rol (ns.map D.int)), some (.int m), some (.ref A.p), some (.ref s), o4, o5, o6, o7, o8, o9] ∧ K25 K w5 A L s ra rf m as fs (j + 1)) ?_
          exact ⟨A, L, ra, rf, ys, zs, _, _, _, _, _, _, rfl, k4⟩
      | none =>
        intro w1 ra1 rf1 as1 fs1 h1 fr hra hrf ow
        have hA1 : LnAt K w1 A L := ⟨k.ln.nd, fun x hx => fr _ _ (k.ln.all x hx) (fun z => k.ds (by rw [← z]; exact List.mem_map.mpr ⟨x, hx, rfl⟩)) (fun z => k.da (by rw [← z]; exact List.mem_map.mpr ⟨x, hx, rfl⟩)) (fun z => k.df (by rw [← z]; exact List.mem_map.mpr ⟨x, hx, rfl⟩))⟩
        refine ⟨A, L, kd, i, rfl, hA1, k.room (by omega), by rw [← k.pa.length_eq]; omega, by rw [← k.pf.length_eq]; omega, ?_⟩
        rw [Sky.no_eq k, hk]
        intro w2 A2 st
        have k1 := k.go hk h1 fr hra hrf ow st
        refine ⟨_, _, rfl, like_tup2 (like_str _) like_non, ?_⟩
        rw [← st.p]
        have c0 : w2 A2.p = some (.ins (lnC K) (lnF A2 (kd.go L i).s)) := k1.ln.at 0
        walk_at "ls"
        have l1 := k1.la
        have l2 := k1.lf
        refine ⟨A2, (kd.go L i), rfl, k1.ln, by rw [← k1.pa.length_eq]; omega, fun ys p1 hy1 hy2 hp1 => ?_⟩
        obtain rfl := srt_eq (hy1.trans k1.pa.symm) hy2 k1.sa
        have k2 := k1.gro (Grow.put (n := .lst (ys.map D.int)) hp1) (j + 1) (Nat.le_refl _)
        have c1 : (put w2 p1 (.lst (ys.map D.int))) A2.p = some (.ins (lnC K) (lnF A2 (kd.go L i).s)) := k2.ln.at 0
        simp only [c1, insK_s]
        refine ⟨rfl, A2, (kd.go L i), rfl, k2.ln, by rw [← k2.pf.length_eq]; omega, fun zs p2 hz1 hz2 hp2 => ?_⟩
        obtain rfl := srt_eq (hz1.trans k2.pf.symm) hz2 k2.sf
        have k3 := k2.gro (Grow.put (n := .lst (zs.map D.int)) hp2) (j + 1) (Nat.le_refl _)
        have hp3 := put_eqn.mp hp2
        have k4 : K25 K (put (put (put (put w2 p1 (.lst (ys.map D.int))) p2 (.lst (zs.map D.int))) p1 (.lst (ys.map D.int ++ [.int 0]))) p2 (.lst (zs.map D.int ++ [.int 0]))) A2 (kd.go L i) s ra1 rf1 m ys zs (j + 1) := by
          refine k1.gro (fun a n h => ?_) (j + 1) (Nat.le_refl _)
          have z1 := ne_new h hp1
          have z2 := ne_new h hp3.2
          walk_at "fin"
        have cs := k3.sk.s
        have ca := k3.sk.a
        have cf := k3.sk.f
        have tl : ∀ R : Wd → Prop, R (put (put (put (put w2 p1 (.lst (ys.map D.int))) p2 (.lst (zs.map D.int))) p1 (.lst (ys.map D.int ++ [.int 0]))) p2 (.lst (zs.map D.int ++ [.int 0]))) →
            (dTyOk "list" (put (put w2 p1 (.lst (ys.map D.int))) p2 (.lst (zs.map D.int))) (.ref p1) ∧ atL (put (put w2 p1 (.lst (ys.map D.int))) p2 (.lst (zs.map D.int))) (.ref p1) fun a xs => xs.length < sizeLine ∧
              dTyOk "list" (put (put (put w2 p1 (.lst (ys.map D.int))) p2 (.lst (zs.map D.int))) a (.lst (xs ++ [.int 0]))) (.ref p2) ∧ atL (put (put (put w2 p1 (.lst (ys.map D.int))) p2 (.lst (zs.map D.int))) a (.lst (xs ++ [.int 0]))) (.ref p2) fun b us => us.length < sizeLine ∧
                R (put (put (put (put w2 p1 (.lst (ys.map D.int))) p2 (.lst (zs.map D.int))) a (.lst (xs ++ [.int 0]))) b (.lst (us ++ [.int 0])))) := fun R r => by
          have q1 : (put (put w2 p1 (.lst (ys.map D.int))) p2 (.lst (zs.map D.int))) p1 = some (.lst (ys.map D.int)) := by walk_at "fin"
          have q2 : (put (put (put w2 p1 (.lst (ys.map D.int))) p2 (.lst (zs.map D.int))) p1 (.lst (ys.map D.int ++ [.int 0]))) p2 = some (.lst (zs.map D.int)) := by walk_at "fin"
          refine ⟨dTy_w q1, ?_⟩
          rw [atL_w q1]
          refine ⟨smallL (by rw [List.length_map]; omega), dTy_w q2, ?_⟩
          rw [atL_w q2]
          exact ⟨smallL (by rw [List.length_map]; omega), r⟩
        by_cases h4 : 0 < n2 % 4
        · simp only [if_pos h4, cs, ixNd_ks, valD_tl, valD_hd, optD_s]
          walk_at "ls"
          refine ⟨_, _, rfl, ?_, ?_⟩
          · refine .inr (.inr (.inr (.inr (.inr ⟨[.ref p1, .ref p2], [.ref ra1, .ref rf1], rfl, rfl, rfl, by show (2 : Nat) ≤ 100000; omega, fun i d e hd he => ?_⟩))))
            have g1 : getM (put (put w2 p1 (.lst (ys.map D.int))) p2 (.lst (zs.map D.int))) (.ref p1) = some (ys.map D.int) := by rw [getM_ref, put_en hp3.1, put_same]; rfl
            have g2 : getM (put (put w2 p1 (.lst (ys.map D.int))) p2 (.lst (zs.map D.int))) (.ref p2) = some (zs.map D.int) := by rw [getM_ref, put_same]; rfl
            have g3 : getM (put (put w2 p1 (.lst (ys.map D.int))) p2 (.lst (zs.map D.int))) (.ref ra1) = some (ys.map D.int) := by rw [getM_ref, ca]; rfl
            have g4 : getM (put (put w2 p1 (.lst (ys.map D.int))) p2 (.lst (zs.map D.int))) (.ref rf1) = some (zs.map D.int) := by rw [getM_ref, cf]; rfl
            match i with
            | 0 => cases hd; cases he; exact like_ints g1 g3 (by omega)
            | 1 => cases hd; cases he; exact like_ints g2 g4 (by omega)
            | n + 2 => cases hd
          · refine tl (fun w5 => ∃ (A : LA) (L : LL) (ra rf : Addr) (as fs : List Int) (o4 o5 o6 o7 o8 o9 : Option D), _ = [some (.rol (ns.map D.int)), some (.int m), some (.ref A.p), some (.ref s), o4, o5, o6, o7, o8, o9] ∧ K25 K w5 A L s ra rf m as fs (j + 1)) ?_
            exact ⟨A2, (kd.go L i), ra1, rf1, ys, zs, _, _, _, _, _, _, rfl, k4⟩
        · simp only [if_neg h4]
          refine tl (fun w5 => ∃ (A : LA) (L : LL) (ra rf : Addr) (as fs : List Int) (o4 o5 o6 o7 o8 o9 : Option D), _ = [some (.rol (ns.map D.int)), some (.int m), some (.ref A.p), some (.ref s), o4, o5, o6, o7, o8, o9] ∧ K25 K w5 A L s ra rf m as fs (j + 1)) ?_
          exact ⟨A2, (kd.go L i), ra1, rf1, ys, zs, _, _, _, _, _, _, rfl, k4⟩
  · rintro S2 v ⟨A, L, ra, rf, as, fs, o4, o5, o6, o7, o8, o9, rfl, k1⟩
    have hj2 : (B - 1).toNat ≤ 60 := by omega
    have c0 : v A.p = some (.ins (lnC K) (lnF A L.s)) := k1.ln.at 0
    walk_at "ls"
    have l1 := k1.la
    have l2 := k1.lf
    refine ⟨A, L, rfl, k1.ln, by rw [← k1.pa.length_eq]; omega, fun ys p1 hy1 hy2 hp1 => ?_⟩
    obtain rfl := srt_eq (hy1.trans k1.pa.symm) hy2 k1.sa
    have k2 := k1.gro (Grow.put (n := .lst (ys.map D.int)) hp1) _ (Nat.le_refl _)
    have c1 : (put v p1 (.lst (ys.map D.int))) A.p = some (.ins (lnC K) (lnF A L.s)) := k2.ln.at 0
    simp only [c1, insK_s]
    refine ⟨rfl, A, L, rfl, k2.ln, by rw [← k2.pf.length_eq]; omega, fun zs p2 hz1 hz2 hp2 => ?_⟩
    obtain rfl := srt_eq (hz1.trans k2.pf.symm) hz2 k2.sf
    have k3 := k2.gro (Grow.put (n := .lst (zs.map D.int)) hp2) _ (Nat.le_refl _)
    have hp3 := put_eqn.mp hp2
    have cs := k3.sk.s
    have ca := k3.sk.a
    have cf := k3.sk.f
    walk_at "ls"
    refine ⟨_, _, rfl, ?_, q _⟩
    refine .inr (.inr (.inr (.inr (.inr ⟨[.ref p1, .ref p2], [.ref ra, .ref rf], rfl, rfl, rfl, by show (2 : Nat) ≤ 100000; omega, fun i d e hd he => ?_⟩))))
    have g1 : getM (put (put v p1 (.lst (ys.map D.int))) p2 (.lst (zs.map D.int))) (.ref p1) = some (ys.map D.int) := by rw [getM_ref, put_en hp3.1, put_same]; rfl
    have g2 : getM (put (put v p1 (.lst (ys.map D.int))) p2 (.lst (zs.map D.int))) (.ref p2) = some (zs.map D.int) := by rw [getM_ref, put_same]; rfl
    have g3 : getM (put (put v p1 (.lst (ys.map D.int))) p2 (.lst (zs.map D.int))) (.ref ra) = some (ys.map D.int) := by rw [getM_ref, ca]; rfl
    have g4 : getM (put (put v p1 (.lst (ys.map D.int))) p2 (.lst (zs.map D.int))) (.ref rf) = some (zs.map D.int) := by rw [getM_ref, cf]; rfl
    match i with
    | 0 => cases hd; cases he; exact like_ints g1 g3 (by omega)
    | 1 => cases hd; cases he; exact like_ints g2 g4 (by omega)
    | n + 2 => cases hd
end TD

set_option maxHeartbeats 0
namespace TD
open PySem PySem.Spec PyProof.Rows L2
theorem run_parts {r : PySem.W.OpenRow} {q : Program} {sel : (Addr → Option Obj) → List Addr} {fa : List He.Fa} {fn : List He.DefD} {ex : List XFa} {M : Nat} {loose : List PySem.Str} {w : World} {n : Nat} (a : HlA r sel ex M w) (b : HlB r q sel (fa.take n) M loose w) (c : HlD r sel (fa.drop n) M w) (d : HlE r sel fn M w) :
    HandSHeadRun.RunEq r q (hookX sel fa fn ex) (fun s => obX sel fa fn ex (HandSHeadRun.getT s)) M loose w := by
  intro os
  exact map_impY (fun z => (z.1.1, z.2.1.1, (z.2.1.2 && z.2.2.1, z.2.2.2), z.1.2)) (map_twoY (a os) (map_twoY (hl_facts b c os) (d os))) fun s => rfl
end TD
namespace Hd
open TD PySem PySem.Spec PyProof.Rows L2
abbrev hk : PySem.W.Hook := hookX sel fa fn ex
def ob (s : PySem.W.SharedT) : He.AlD × Bool := obX sel fa fn ex (HandSHeadRun.getT s)
theorem ob_eq (s : PySem.W.SharedT) : ob s = hk.obs s.abs := obX_eq (HandSHeadRun.getT_eq s)
theorem run (w : World) : HandSHeadRun.RunEq R (PySem.W.view R.prog [78]) hk ob 40000 loose w := run_parts (hlA w) (hlB w) (hlD w) (hlE w)
end Hd
namespace TD
open Hd PySem PySem.Spec PyProof.Rows L2
structure Tx (K : PySem.W.Frag) (mg : Str → Option Value) : Prop where
  c_FEWEST : ∃ t, mg "FEWEST" = some (.int 2 t)
  c_MOST : ∃ t, mg "MOST" = some (.int 12 t)
  c_REST : ∃ t, mg "REST" = some (.int 0 t)
  c_WAYS : GT K mg "WAYS" [.str "up", .str "down"]
  f_all : mg "all" = none
  f_bool : mg "bool" = none
  f_dict : mg "dict" = none
  f_int : mg "int" = none
  f_isinstance : mg "isinstance" = none
  f_len : mg "len" = none
  f_list : mg "list" = none
  f_max : mg "max" = none
  f_min : mg "min" = none
  f_range : mg "range" = none
  f_sorted : mg "sorted" = none
  f_str : mg "str" = none
  f_tuple : mg "tuple" = none
  o_Books : ClF K (He.ga K "Books") ["size", "written", "gone"]
  o_Line : ClF K (He.ga K "Line") ["length", "going", "shown", "queues", "sleepers", "clouds", "books", "phrases", "told", "past", "ahead"]
  o_Phrasebook : ClF K (He.ga K "Phrasebook") ["by_place", "by_word"]
  x_Asleep : XF K mg "Asleep"
  x_Awake : XF K mg "Awake"
  x_BadCount : XF K mg "BadCount"
  x_BadPlace : XF K mg "BadPlace"
  x_BadSign : XF K mg "BadSign"
  x_BadSlip : XF K mg "BadSlip"
  x_BadWay : XF K mg "BadWay"
  x_BadWord : XF K mg "BadWord"
  x_Busy : XF K mg "Busy"
  x_Clear : XF K mg "Clear"
  x_Fogged : XF K mg "Fogged"
  x_Full : XF K mg "Full"
  x_Known : XF K mg "Known"
  x_Legible : XF K mg "Legible"
  x_Lost : XF K mg "Lost"
  x_MastError : XF K mg "MastError"
  x_NoBook : XF K mg "NoBook"
  x_NoMast : XF K mg "NoMast"
  x_NoRow : XF K mg "NoRow"
  x_NoWord : XF K mg "NoWord"
  x_NotRaising : XF K mg "NotRaising"
  x_NotReady : XF K mg "NotReady"
  x_NothingLeft : XF K mg "NothingLeft"
  x_NothingWaits : XF K mg "NothingWaits"
  x_Taken : XF K mg "Taken"
section
variable {P : Program} {w : World} {K : PySem.W.Frag} {mg : Str → Option Value} {base : Heap}
theorem sc_check_masts : FnScope ["masts"] ["masts"] (defScope st_check_masts) := ⟨rfl, rfl, rfl, by decide +kernel, rfl, by decide +kernel, by decide +kernel⟩
theorem ok_check_masts {f : Addr} {fd : FuncData} (F : FunD K "check_masts" "check_masts" (defArgs st_check_masts) (defBody st_check_masts) (defScope st_check_masts) [] [] f fd) (T : Tx K mg)
    (len : ∀ ds w Q E, ((sp_check_masts K)) ds w Q E → ds.length = 1) (red : ∀ ds w Q E, ((sp_check_masts K)) ds w Q E → t_check_masts K  E { nx := fun _ w1 => Q .non w1, rt := Q } (startD ["masts"] ds) w) : FnOk P w K mg base (L2N.CX P w) (1) f fd ["masts"] (lift K ((sp_check_masts K))) :=
  fn_ok F sc_check_masts len (fun cdv A outer s H E E' hr => by
    have tk := L2N.takes_of (X := cxOf (L2N.CX P w) P w K mg base ["masts"] "check_masts" (defScope st_check_masts) f cdv A outer s H E) (E := E) rfl rfl rfl rfl
    have hp := passes_of (X := cxOf (L2N.CX P w) P w K mg base ["masts"] "check_masts" (defScope st_check_masts) f cdv A outer s H E) rfl
    exact (show QSs (cxOf (L2N.CX P w) P w K mg base ["masts"] "check_masts" (defScope st_check_masts) f cdv A outer s H E) (fun c d _ H => E c d H) (fun c d _ w => E' c d w) (defBody st_check_masts) (dIf (dOr (dB (dOp ltD (dVar 0) (dC (.int 2)))) (dB (dOp gtD (dVar 0) (dC (.int 12))))) (dRaise (cls K "BadCount") (fun c d _ w => E' c d w)) dNext) from (qss_one (qs_if (qt_bool (qw_or (qt_lt (qv 0) (qe_gint T.c_FEWEST)) (qw_or1 (qt_gt (qv 0) (qe_gint T.c_MOST))))) (qss_one (qs_raise T.x_BadCount tk)) qss_nil)))) red
theorem sc_check_mast : FnScope ["masts", "mast"] ["masts", "mast"] (defScope st_check_mast) := ⟨rfl, rfl, rfl, by decide +kernel, rfl, by decide +kernel, by decide +kernel⟩
theorem ok_check_mast {f : Addr} {fd : FuncData} (F : FunD K "check_mast" "check_mast" (defArgs st_check_mast) (defBody st_check_mast) (defScope st_check_mast) [] [] f fd) (T : Tx K mg)
    (len : ∀ ds w Q E, ((sp_check_mast K)) ds w Q E → ds.length = 2) (red : ∀ ds w Q E, ((sp_check_mast K)) ds w Q E → t_check_mast K  E { nx := fun _ w1 => Q .non w1, rt := Q } (startD ["masts", "mast"] ds) w) : FnOk P w K mg base (L2N.CX P w) (1) f fd ["masts", "mast"] (lift K ((sp_check_mast K))) :=
  fn_ok F sc_check_mast len (fun cdv A outer s H E E' hr => by
    have tk := L2N.takes_of (X := cxOf (L2N.CX P w) P w K mg base ["masts", "mast"] "check_mast" (defScope st_check_mast) f cdv A outer s H E) (E := E) rfl rfl rfl rfl
    have hp := passes_of (X := cxOf (L2N.CX P w) P w K mg base ["masts", "mast"] "check_mast" (defScope st_check_mast) f cdv A outer s H E) rfl
    exact (show QSs (cxOf (L2N.CX P w) P w K mg base ["masts", "mast"] "check_mast" (defScope st_check_mast) f cdv A outer s H E) (fun c d _ H => E c d H) (fun c d _ w => E' c d w) (defBody st_check_mast) (dIf (dOr (dB (dOp ltD (dVar 1) (dC (.int 0)))) (dB (dOp geD (dVar 1) (dVar 0)))) (dRaise (cls K "NoMast") (fun c d _ w => E' c d w)) dNext) from (qss_one (qs_if (qt_bool (qw_or (qt_lt (qv 1) qe_int) (qw_or1 (qt_ge (qv 1) (qv 0))))) (qss_one (qs_raise T.x_NoMast tk)) qss_nil)))) red
theorem sc_deed_text : FnScope ["deed", "part"] ["deed"] (defScope st_deed_text) := ⟨rfl, rfl, rfl, by decide +kernel, rfl, by decide +kernel, by decide +kernel⟩
theorem ok_deed_text {f : Addr} {fd : FuncData} (F : FunD K "deed_text" "deed_text" (defArgs st_deed_text) (defBody st_deed_text) (defScope st_deed_text) [] [] f fd) (T : Tx K mg)
    (len : ∀ ds w Q E, (sp_deed_text) ds w Q E → ds.length = 1) (red : ∀ ds w Q E, (sp_deed_text) ds w Q E → t_deed_text  E { nx := fun _ w1 => Q .non w1, rt := Q } (startD ["deed", "part"] ds) w) : FnOk P w K mg base (L2N.CX P w) (1) f fd ["deed"] (lift K (sp_deed_text)) :=
  fn_ok F sc_deed_text len (fun cdv A outer s H E E' hr => by
    have tk := L2N.takes_of (X := cxOf (L2N.CX P w) P w K mg base ["deed", "part"] "deed_text" (defScope st_deed_text) f cdv A outer s H E) (E := E) rfl rfl rfl rfl
    have hp := passes_of (X := cxOf (L2N.CX P w) P w K mg base ["deed", "part"] "deed_text" (defScope st_deed_text) f cdv A outer s H E) rfl
    exact (show QSs (cxOf (L2N.CX P w) P w K mg base ["deed", "part"] "deed_text" (defScope st_deed_text) f cdv A outer s H E) (fun c d _ H => E c d H) (fun c d _ w => E' c d w) (defBody st_deed_text) (dRet (dBM "str" joinD (dC (.str " ")) (dCons (dLc (diT (dVar 0)) (.one 1) dYes (dCB strD (dCons (dVar 1) dNil))) dNil))) from (qss_one (qs_ret (qe_bm PySem.F.plainAttrs_str PySem.F.slot_str_join PySem.F.type_str_join mt_join tr_join qe_str (qa_cons (qe_lc (own := [("part", 1)]) (T := (.one 1)) rfl rfl sc_deed_text.nd (qi_tup (qv 0)) (blkOk_by (own := [("part", 1)]) (N := ["deed", "part"]) (sc := defScope st_deed_text) (by decide +kernel)) (fun _ _ _ _ _ => pg_name (i := 1) sc_deed_text.nd rfl (Or.inl rfl)) (fun _ _ _ _ _ => qts_nil) (fun _ _ _ _ _ => (qe_callTy call_strA tr_str T.f_str (by decide +kernel) (qa_cons (qv 1) qa_nil)))) qa_nil)))))) red
theorem sc__law_cell : FnScope ["_law_script", "_law_at"] ["_law_script", "_law_at"] (defScope st__law_cell) := ⟨rfl, rfl, rfl, by decide +kernel, rfl, by decide +kernel, by decide +kernel⟩
theorem ok__law_cell {f : Addr} {fd : FuncData} (F : FunD K "_law_cell" "_law_cell" (defArgs st__law_cell) (defBody st__law_cell) (defScope st__law_cell) [] [] f fd) (T : Tx K mg)
    (len : ∀ ds w Q E, (sp__law_cell) ds w Q E → ds.length = 2) (red : ∀ ds w Q E, (sp__law_cell) ds w Q E → t__law_cell  E { nx := fun _ w1 => Q .non w1, rt := Q } (startD ["_law_script", "_law_at"] ds) w) : FnOk P w K mg base (L2N.CX P w) (1) f fd ["_law_script", "_law_at"] (lift K (sp__law_cell)) :=
  fn_ok F sc__law_cell len (fun cdv A outer s H E E' hr => by
    have tk := L2N.takes_of (X := cxOf (L2N.CX P w) P w K mg base ["_law_script", "_law_at"] "_law_cell" (defScope st__law_cell) f cdv A outer s H E) (E := E) rfl rfl rfl rfl
    have hp := passes_of (X := cxOf (L2N.CX P w) P w K mg base ["_law_script", "_law_at"] "_law_cell" (defScope st__law_cell) f cdv A outer s H E) rfl
    exact (show QSs (cxOf (L2N.CX P w) P w K mg base ["_law_script", "_law_at"] "_law_cell" (defScope st__law_cell) f cdv A outer s H E) (fun c d _ H => E c d H) (fun c d _ w => E' c d w) (defBody st__law_cell) (dSeq (dIf (dB (dOp ltD (dVar 1) (dCB lenD (dCons (dVar 0) dNil)))) (dRet (dOp ixD (dVar 0) (dVar 1))) dNext) (dSeq (dIf (dB (dOp (eqD false) (dCB lenD (dCons (dVar 0) dNil)) (dC (.int 0)))) (dRet (dOp addD (dOp mulD (dC (.int 29)) (dVar 1)) (dC (.int 5)))) dNext) (dRet (dOp addD (dOp modD (dOp ixD (dVar 0) (dOp modD (dVar 1) (dCB lenD (dCons (dVar 0) dNil)))) (dC (.int 1000003))) (dOp mulD (dC (.int 103)) (dVar 1)))))) from (qss_cons (qs_if (qt_lt (qv 1) (qe_len T.f_len (qa_cons (qv 0) qa_nil))) (qss_one (qs_ret (qe_sub_ hr (qv 0) (qv 1)))) qss_nil) (qss_cons (qs_if (qt_eq hr (qe_len T.f_len (qa_cons (qv 0) qa_nil)) qe_int) (qss_one (qs_ret (qe_add (qe_mul qe_int (qv 1)) qe_int))) qss_nil) (qss_one (qs_ret (qe_add (qe_mod (qe_sub_ hr (qv 0) (qe_mod (qv 1) (qe_len T.f_len (qa_cons (qv 0) qa_nil)))) qe_int) (qe_mul qe_int (qv 1))))))))) red
theorem sc__law_row : FnScope ["_law_cell_here", "_law_many", "_law_size", "_law_row_here", "_law_seed", "_law_k", "_law_rest", "_law_mixed"] ["_law_cell_here", "_law_many", "_law_size"] (defScope st__law_row) := ⟨rfl, rfl, rfl, by decide +kernel, rfl, by decide +kernel, by decide +kernel⟩
theorem ok__law_row {f : Addr} {fd : FuncData} (F : FunD K "_law_row" "_law_row" (defArgs st__law_row) (defBody st__law_row) (defScope st__law_row) [] [] f fd) (T : Tx K mg)
    (len : ∀ ds w Q E, (sp__law_row) ds w Q E → ds.length = 3) (red : ∀ ds w Q E, (sp__law_row) ds w Q E → t__law_row  E { nx := fun _ w1 => Q .non w1, rt := Q } (startD ["_law_cell_here", "_law_many", "_law_size", "_law_row_here", "_law_seed", "_law_k", "_law_rest", "_law_mixed"] ds) w) : FnOk P w K mg base (L2N.CX P w) (1) f fd ["_law_cell_here", "_law_many", "_law_size"] (lift K (sp__law_row)) :=
  fn_ok F sc__law_row len (fun cdv A outer s H E E' hr => by
    have tk := L2N.takes_of (X := cxOf (L2N.CX P w) P w K mg base ["_law_cell_here", "_law_many", "_law_size", "_law_row_here", "_law_seed", "_law_k", "_law_rest", "_law_mixed"] "_law_row" (defScope st__law_row) f cdv A outer s H E) (E := E) rfl rfl rfl rfl
    have hp := passes_of (X := cxOf (L2N.CX P w) P w K mg base ["_law_cell_here", "_law_many", "_law_size", "_law_row_here", "_law_seed", "_law_k", "_law_rest", "_law_mixed"] "_law_row" (defScope st__law_row) f cdv A outer s H E) rfl
    exact (show QSs (cxOf (L2N.CX P w) P w K mg base ["_law_cell_here", "_law_many", "_law_size", "_law_row_here", "_law_seed", "_law_k", "_law_rest", "_law_mixed"] "_law_row" (defScope st__law_row) f cdv A outer s H E) (fun c d _ H => E c d H) (fun c d _ w => E' c d w) (defBody st__law_row) (dSeq (dAsg (dLstO dNil) 3) (dSeq (dIf (dB (dOp geD (dVar 0) (dOp powD (dC (.int 10)) (dC (.int 18))))) (dSeq (dAsg (dOp subD (dVar 0) (dOp powD (dC (.int 10)) (dC (.int 18)))) 6) (dSeq (dFor (diR1 (dCons (dVar 1) dNil)) (dgName 5) (dSeq (dDrop (dBM "list" appD (dVar 3) (dCons (dOp modD (dVar 6) (dVar 2)) dNil))) (dAsg (dOp fdivD (dVar 6) (dVar 2)) 6))) (dFrz 3 (dRet (dVar 3))))) dNext) (dSeq (dAsg (dOp modD (dVar 0) (dC (.int 2147483647))) 4) (dSeq (dFor (diR1 (dCons (dVar 1) dNil)) (dgName 5) (dSeq (dAsg (dOp modD (dOp addD (dOp addD (dOp mulD (dVar 4) (dC (.int 48271))) (dC (.int 12345))) (dVar 5)) (dC (.int 2147483647))) 4) (dSeq (dAsg (dOp modD (dOp fdivD (dOp mulD (dVar 4) (dOp addD (dOp modD (dVar 4) (dC (.int 65521))) (dC (.int 3)))) (dC (.int 1009))) (dC (.int 1000003))) 7) (dDrop (dBM "list" appD (dVar 3) (dCons (dOp modD (dVar 7) (dVar 2)) dNil)))))) (dFrz 3 (dRet (dVar 3))))))) from (qss_cons (qs_set (i := 3) sc__law_row.nd (qe_lstO qa_nil)) (qss_cons (qs_if (qt_ge (qv 0) (qe_pow qe_int qe_int)) (qss_cons (qs_set (i := 6) sc__law_row.nd (qe_sub (qv 0) (qe_pow qe_int qe_int))) (qss_cons (qs_for hp rfl (qi_range1 T.f_range (qa_cons (qv 1) qa_nil)) (qg_name (i := 5) sc__law_row.nd) (qss_cons (qs_expr (qe_bm PySem.F.plainAttrs_list PySem.F.slot_list_append PySem.F.type_list_append mt_append tr_app (qv 3) (qa_cons (qe_mod (qv 6) (qv 2)) qa_nil))) (qss_one (qs_set (i := 6) sc__law_row.nd (qe_fdiv (qv 6) (qv 2)))))) (qss_one (qs_frz 3 (qs_ret (qv 3)))))) qss_nil) (qss_cons (qs_set (i := 4) sc__law_row.nd (qe_mod (qv 0) qe_int)) (qss_cons (qs_for hp rfl (qi_range1 T.f_range (qa_cons (qv 1) qa_nil)) (qg_name (i := 5) sc__law_row.nd) (qss_cons (qs_set (i := 4) sc__law_row.nd (qe_mod (qe_add (qe_add (qe_mul (qv 4) qe_int) qe_int) (qv 5)) qe_int)) (qss_cons (qs_set (i := 7) sc__law_row.nd (qe_mod (qe_fdiv (qe_mul (qv 4) (qe_add (qe_mod (qv 4) qe_int) qe_int)) qe_int) qe_int)) (qss_one (qs_expr (qe_bm PySem.F.plainAttrs_list PySem.F.slot_list_append PySem.F.type_list_append mt_append tr_app (qv 3) (qa_cons (qe_mod (qv 7) (qv 2)) qa_nil))))))) (qss_one (qs_frz 3 (qs_ret (qv 3)))))))))) red
theorem sc__law_like : FnScope ["_law_found", "_law_due", "_law_k"] ["_law_found", "_law_due"] (defScope st__law_like) := ⟨rfl, rfl, rfl, by decide +kernel, rfl, by decide +kernel, by decide +kernel⟩
theorem ok__law_like (n : Nat) {f : Addr} {fd : FuncData} (F : FunD K "_law_like" "_law_like" (defArgs st__law_like) (defBody st__law_like) (defScope st__law_like) [] [] f fd) (T : Tx K mg) (G__law_like : Own P w K mg base "_law_like" (n + 1) ["_law_found", "_law_due"] (sp_like n))
    (len : ∀ ds w Q E, (sp_like (n + 1)) ds w Q E → ds.length = 2) (red : ∀ ds w Q E, (sp_like (n + 1)) ds w Q E → t__law_like n E { nx := fun _ w1 => Q .non w1, rt := Q } (startD ["_law_found", "_law_due", "_law_k"] ds) w) : FnOk P w K mg base (L2N.CX P w) (n + 2) f fd ["_law_found", "_law_due"] (lift K (sp_like (n + 1))) :=
  fn_ok F sc__law_like len (fun cdv A outer s H E E' hr => by
    have tk := L2N.takes_of (X := cxOf (L2N.CX P w) P w K mg base ["_law_found", "_law_due", "_law_k"] "_law_like" (defScope st__law_like) f cdv A outer s H E) (E := E) rfl rfl rfl rfl
    have hp := passes_of (X := cxOf (L2N.CX P w) P w K mg base ["_law_found", "_law_due", "_law_k"] "_law_like" (defScope st__law_like) f cdv A outer s H E) rfl
    exact (show QSs (cxOf (L2N.CX P w) P w K mg base ["_law_found", "_law_due", "_law_k"] "_law_like" (defScope st__law_like) f cdv A outer s H E) (fun c d _ H => E c d H) (fun c d _ w => E' c d w) (defBody st__law_like) (dSeq (dIf (dB (dOp (isN false) (dVar 1) (dC .non))) (dRet (dOp (isN false) (dVar 0) (dC .non))) dNext) (dSeq (dIf (dB (dCB isiD (dCons (dVar 1) (dCons (dC (.ty "bool")) dNil)))) (dRet (dAndV (dCB isiD (dCons (dVar 0) (dCons (dC (.ty "bool")) dNil))) (dOp (eqD false) (dVar 0) (dVar 1)))) dNext) (dSeq (dIf (dB (dCB isiD (dCons (dVar 1) (dCons (dC (.ty "int")) dNil)))) (dRet (dAndV (dCB isiD (dCons (dVar 0) (dCons (dC (.ty "int")) dNil))) (dAndV (dNotV (dCB isiD (dCons (dVar 0) (dCons (dC (.ty "bool")) dNil)))) (dOp (eqD false) (dVar 0) (dVar 1))))) dNext) (dSeq (dIf (dB (dCB isiD (dCons (dVar 1) (dCons (dC (.ty "str")) dNil)))) (dRet (dAndV (dCB isiD (dCons (dVar 0) (dCons (dC (.ty "str")) dNil))) (dOp (eqD false) (dVar 0) (dVar 1)))) dNext) (dSeq (dIf (dOr (dB (dOp (eqD true) (dCB isiD (dCons (dVar 1) (dCons (dC (.ty "list")) dNil))) (dCB isiD (dCons (dVar 0) (dCons (dC (.ty "list")) dNil))))) (dB (dOp (eqD true) (dCB isiD (dCons (dVar 1) (dCons (dC (.ty "tuple")) dNil))) (dCB isiD (dCons (dVar 0) (dCons (dC (.ty "tuple")) dNil)))))) (dRet (dC (.bl false))) dNext) (dRet (dAndV (dOp (eqD false) (dCB lenD (dCons (dVar 0) dNil)) (dCB lenD (dCons (dVar 1) dNil))) (dCB allD (dCons (dLc (diR1 (dCons (dCB lenD (dCons (dVar 1) dNil)) dNil)) (.one 2) dYes (dCall (sp_like n) DW0 (dCons (dOp ixD (dVar 0) (dVar 2)) (dCons (dOp ixD (dVar 1) (dVar 2)) dNil)))) dNil))))))))) from (qss_cons (qs_if (qt_is (qv 1) qe_non) (qss_one (qs_ret (qe_is (qv 0) qe_non))) qss_nil) (qss_cons (qs_if (qt_val (qe_callB call_isi tr_isi T.f_isinstance (by decide +kernel) (qa_cons (qv 1) (qa_cons (qe_ty T.f_bool (by decide +kernel)) qa_nil)))) (qss_one (qs_ret (qe_and (qe_callB call_isi tr_isi T.f_isinstance (by decide +kernel) (qa_cons (qv 0) (qa_cons (qe_ty T.f_bool (by decide +kernel)) qa_nil))) (qe_one (qe_eq hr (qv 0) (qv 1)))))) qss_nil) (qss_cons (qs_if (qt_val (qe_callB call_isi tr_isi T.f_isinstance (by decide +kernel) (qa_cons (qv 1) (qa_cons (qe_ty T.f_int (by decide +kernel)) qa_nil)))) (qss_one (qs_ret (qe_and (qe_callB call_isi tr_isi T.f_isinstance (by decide +kernel) (qa_cons (qv 0) (qa_cons (qe_ty T.f_int (by decide +kernel)) qa_nil))) (qe_and (qe_not (qe_callB call_isi tr_isi T.f_isinstance (by decide +kernel) (qa_cons (qv 0) (qa_cons (qe_ty T.f_bool (by decide +kernel)) qa_nil)))) (qe_one (qe_eq hr (qv 0) (qv 1))))))) qss_nil) (qss_cons (qs_if (qt_val (qe_callB call_isi tr_isi T.f_isinstance (by decide +kernel) (qa_cons (qv 1) (qa_cons (qe_ty T.f_str (by decide +kernel)) qa_nil)))) (qss_one (qs_ret (qe_and (qe_callB call_isi tr_isi T.f_isinstance (by decide +kernel) (qa_cons (qv 0) (qa_cons (qe_ty T.f_str (by decide +kernel)) qa_nil))) (qe_one (qe_eq hr (qv 0) (qv 1)))))) qss_nil) (qss_cons (qs_if (qt_bool (qw_or (qt_ne hr (qe_callB call_isi tr_isi T.f_isinstance (by decide +kernel) (qa_cons (qv 1) (qa_cons (qe_ty T.f_list (by decide +kernel)) qa_nil))) (qe_callB call_isi tr_isi T.f_isinstance (by decide +kernel) (qa_cons (qv 0) (qa_cons (qe_ty T.f_list (by decide +kernel)) qa_nil)))) (qw_or1 (qt_ne hr (qe_callB call_isi tr_isi T.f_isinstance (by decide +kernel) (qa_cons (qv 1) (qa_cons (qe_ty T.f_tuple (by decide +kernel)) qa_nil))) (qe_callB call_isi tr_isi T.f_isinstance (by decide +kernel) (qa_cons (qv 0) (qa_cons (qe_ty T.f_tuple (by decide +kernel)) qa_nil))))))) (qss_one (qs_ret qe_bl)) qss_nil) (qss_one (qs_ret (qe_and (qe_eq hr (qe_len T.f_len (qa_cons (qv 0) qa_nil)) (qe_len T.f_len (qa_cons (qv 1) qa_nil))) (qe_one (qe_callB (cr_all rfl) tr_all T.f_all (by decide +kernel) (qa_cons (qe_lc (own := [("_law_k", 2)]) (T := (.one 2)) rfl rfl sc__law_like.nd (qi_range1 T.f_range (qa_cons (qe_len T.f_len (qa_cons (qv 1) qa_nil)) qa_nil)) (blkOk_by (own := [("_law_k", 2)]) (N := ["_law_found", "_law_due", "_law_k"]) (sc := defScope st__law_like) (by decide +kernel)) (fun _ _ _ _ _ => pg_name (i := 2) sc__law_like.nd rfl (Or.inl rfl)) (fun _ _ _ _ _ => qts_nil) (fun _ _ _ _ _ => (qe_fn G__law_like hr tk0 (qa_cons (qe_sub_ hr (qv 0) (qv 2)) (qa_cons (qe_sub_ hr (qv 1) (qv 2)) qa_nil))))) qa_nil))))))))))))) red
theorem sc__law_sky_deed : FnScope ["_law_state", "_law_deed", "_law_key", "_law_most", "_law_there"] ["_law_state", "_law_deed"] (defScope st__law_sky_deed) := ⟨rfl, rfl, rfl, by decide +kernel, rfl, by decide +kernel, by decide +kernel⟩
theorem ok__law_sky_deed {f : Addr} {fd : FuncData} (F : FunD K "_law_sky_deed" "_law_sky_deed" (defArgs st__law_sky_deed) (defBody st__law_sky_deed) (defScope st__law_sky_deed) [] [] f fd) (T : Tx K mg)
    (len : ∀ ds w Q E, (sp__law_sky_deed) ds w Q E → ds.length = 2) (red : ∀ ds w Q E, (sp__law_sky_deed) ds w Q E → t__law_sky_deed  E { nx := fun _ w1 => Q .non w1, rt := Q } (startD ["_law_state", "_law_deed", "_law_key", "_law_most", "_law_there"] ds) w) : FnOk P w K mg base (L2N.CX P w) (1) f fd ["_law_state", "_law_deed"] (lift K (sp__law_sky_deed)) :=
  fn_ok F sc__law_sky_deed len (fun cdv A outer s H E E' hr => by
    have tk := L2N.takes_of (X := cxOf (L2N.CX P w) P w K mg base ["_law_state", "_law_deed", "_law_key", "_law_most", "_law_there"] "_law_sky_deed" (defScope st__law_sky_deed) f cdv A outer s H E) (E := E) rfl rfl rfl rfl
    have hp := passes_of (X := cxOf (L2N.CX P w) P w K mg base ["_law_state", "_law_deed", "_law_key", "_law_most", "_law_there"] "_law_sky_deed" (defScope st__law_sky_deed) f cdv A outer s H E) rfl
    exact (show QSs (cxOf (L2N.CX P w) P w K mg base ["_law_state", "_law_deed", "_law_key", "_law_most", "_law_there"] "_law_sky_deed" (defScope st__law_sky_deed) f cdv A outer s H E) (fun c d _ H => E c d H) (fun c d _ w => E' c d w) (defBody st__law_sky_deed) (dSeq (dAsg (dIfE (dB (dOp (inD false) (dOp ixD (dVar 1) (dC (.int 0))) (dTup (dCons (dC (.str "doze")) (dCons (dC (.str "wake")) dNil))))) (dC (.str "asleep")) (dC (.str "fogs"))) 2) (dSeq (dAsg (dOp subD (dOp ixD (dVar 0) (dC (.str "masts"))) (dCB intD (dCons (dOp (eqD false) (dVar 2) (dC (.str "fogs"))) dNil))) 3) (dSeq (dIf (dNot (dB (dChain leD ltD (dC (.int 0)) (dOp ixD (dVar 1) (dC (.int 1))) (dVar 3)))) (dRet (dTup (dCons (dC (.str "no")) (dCons (dC (.str "NoMast")) dNil)))) dNext) (dSeq (dAsg (dOp (inD false) (dOp ixD (dVar 1) (dC (.int 1))) (dOp ixD (dVar 0) (dVar 2))) 4) (dSeq (dIf (dB (dOp (inD false) (dOp ixD (dVar 1) (dC (.int 0))) (dTup (dCons (dC (.str "doze")) (dCons (dC (.str "fog")) dNil))))) (dSeq (dIf (dB (dVar 4)) (dRet (dTup (dCons (dC (.str "no")) (dCons (dOp ixD (dDisp ["doze", "fog"] (dCons (dC (.str "Asleep")) (dCons (dC (.str "Fogged")) dNil))) (dOp ixD (dVar 1) (dC (.int 0)))) dNil)))) dNext) (dSetK (dCB sortDO (dCons (dOp addD (dOp ixD (dVar 0) (dVar 2)) (dLst (dCons (dOp ixD (dVar 1) (dC (.int 1))) dNil))) dNil)) (dVar 0) (dVar 2))) (dSeq (dIf (dNot (dB (dVar 4))) (dRet (dTup (dCons (dC (.str "no")) (dCons (dOp ixD (dDisp ["wake", "lift"] (dCons (dC (.str "Awake")) (dCons (dC (.str "Clear")) dNil))) (dOp ixD (dVar 1) (dC (.int 0)))) dNil)))) dNext) (dDrop (dBM "list" remD (dOp ixD (dVar 0) (dVar 2)) (dCons (dOp ixD (dVar 1) (dC (.int 1))) dNil))))) (dRet (dTup (dCons (dC (.str "told")) (dCons (dC .non) dNil))))))))) from (qss_cons (qs_set (i := 2) sc__law_sky_deed.nd (qe_if (qt_in hr (qe_sub_ hr (qv 1) qe_int) (qe_tup (qa_cons qe_str (qa_cons qe_str qa_nil)))) qe_str qe_str)) (qss_cons (qs_set (i := 3) sc__law_sky_deed.nd (qe_sub (qe_sub_ hr (qv 0) qe_str) (qe_callTy call_int1 tr_int T.f_int (by decide +kernel) (qa_cons (qe_eq hr (qv 2) qe_str) qa_nil)))) (qss_cons (qs_if (qt_not (qt_el qe_int (qe_sub_ hr (qv 1) qe_int) (qv 3))) (qss_one (qs_ret (qe_tup (qa_cons qe_str (qa_cons qe_str qa_nil))))) qss_nil) (qss_cons (qs_set (i := 4) sc__law_sky_deed.nd (qe_in hr (qe_sub_ hr (qv 1) qe_int) (qe_sub_ hr (qv 0) (qv 2)))) (qss_cons (qs_if (qt_in hr (qe_sub_ hr (qv 1) qe_int) (qe_tup (qa_cons qe_str (qa_cons qe_str qa_nil)))) (qss_cons (qs_if (qt_val (qv 4)) (qss_one (qs_ret (qe_tup (qa_cons qe_str (qa_cons (qe_sub_ hr (qe_disp (qd_cons qe_str (qd_cons qe_str qd_nil))) (qe_sub_ hr (qv 1) qe_int)) qa_nil))))) qss_nil) (qss_one (qs_dput hr (qe_callB cr_sortedI tr_sortO T.f_sorted (by decide +kernel) (qa_cons (qe_add (qe_sub_ hr (qv 0) (qv 2)) (qe_lst (qa_cons (qe_sub_ hr (qv 1) qe_int) qa_nil))) qa_nil)) (qv 0) (qv 2)))) (qss_cons (qs_if (qt_not (qt_val (qv 4))) (qss_one (qs_ret (qe_tup (qa_cons qe_str (qa_cons (qe_sub_ hr (qe_disp (qd_cons qe_str (qd_cons qe_str qd_nil))) (qe_sub_ hr (qv 1) qe_int)) qa_nil))))) qss_nil) (qss_one (qs_expr (qe_bm PySem.F.plainAttrs_list PySem.F.slot_list_remove PySem.F.type_list_remove mt_remove tr_rem (qe_sub_ hr (qv 0) (qv 2)) (qa_cons (qe_sub_ hr (qv 1) qe_int) qa_nil)))))) (qss_one (qs_ret (qe_tup (qa_cons qe_str (qa_cons qe_non qa_nil)))))))))))) red
theorem sc__law_kind : FnScope ["_law_e", "_law_kinds", "_law_names"] ["_law_e"] (defScope st__law_kind) := ⟨rfl, rfl, rfl, by decide +kernel, rfl, by decide +kernel, by decide +kernel⟩
theorem ok__law_kind {f : Addr} {fd : FuncData} (F : FunD K "_law_kind" "_law_kind" (defArgs st__law_kind) (defBody st__law_kind) (defScope st__law_kind) [] [] f fd) (T : Tx K mg)
    (red : ∀ a cl x w Q, ((sp__law_kind K)) cl x w Q → t__law_kind K a cl x { nx := fun _ w1 => Q .non w1, rt := Q } (startD ["_law_e", "_law_kinds", "_law_names"] [.ref a]) w) : FnK P w K mg base (1) f fd ["_law_e"] ((sp__law_kind K)) :=
  FnK.of F sc__law_kind rfl (fun cdv A outer s H ⟨a, oe⟩ cl d x hr hz hf hx => by
    exact (show QSs (L2H.cxH (L2N.CX P w) P w K mg base ["_law_e", "_law_kinds", "_law_names"] "_law_kind" (defScope st__law_kind) f cdv A outer s H NoX (a, oe)) W0 DW0 (defBody st__law_kind) (dSeq (dAsg (dLst (dCons (dIsE K 0 a cl x (cls K "BadWay")) (dCons (dIsE K 0 a cl x (cls K "BadSign")) (dCons (dIsE K 0 a cl x (cls K "Full")) (dCons (dIsE K 0 a cl x (cls K "NothingWaits")) dNil))))) 1) (dSeq (dAsg (dOp addD (dVar 1) (dLst (dCons (dIsE K 0 a cl x (cls K "NoMast")) (dCons (dIsE K 0 a cl x (cls K "NotReady")) (dCons (dIsE K 0 a cl x (cls K "NotRaising")) (dCons (dIsE K 0 a cl x (cls K "BadSlip")) dNil)))))) 1) (dSeq (dAsg (dOp addD (dVar 1) (dLst (dCons (dIsE K 0 a cl x (cls K "Asleep")) (dCons (dIsE K 0 a cl x (cls K "Awake")) (dCons (dIsE K 0 a cl x (cls K "Fogged")) (dCons (dIsE K 0 a cl x (cls K "Clear")) dNil)))))) 1) (dSeq (dAsg (dOp addD (dVar 1) (dLst (dCons (dIsE K 0 a cl x (cls K "Busy")) (dCons (dIsE K 0 a cl x (cls K "NoRow")) (dCons (dIsE K 0 a cl x (cls K "NoBook")) (dCons (dIsE K 0 a cl x (cls K "Lost")) dNil)))))) 1) (dSeq (dAsg (dOp addD (dVar 1) (dLst (dCons (dIsE K 0 a cl x (cls K "Legible")) (dCons (dIsE K 0 a cl x (cls K "NothingLeft")) (dCons (dIsE K 0 a cl x (cls K "BadPlace")) dNil))))) 1) (dSeq (dAsg (dOp addD (dVar 1) (dLst (dCons (dIsE K 0 a cl x (cls K "BadWord")) (dCons (dIsE K 0 a cl x (cls K "Taken")) (dCons (dIsE K 0 a cl x (cls K "Known")) (dCons (dIsE K 0 a cl x (cls K "NoWord")) dNil)))))) 1) (dSeq (dAsg (dLst (dCons (dC (.str "BadWay")) (dCons (dC (.str "BadSign")) (dCons (dC (.str "Full")) (dCons (dC (.str "NothingWaits")) (dCons (dC (.str "NoMast")) (dCons (dC (.str "NotReady")) (dCons (dC (.str "NotRaising")) (dCons (dC (.str "BadSlip")) (dCons (dC (.str "Asleep")) dNil)))))))))) 2) (dSeq (dAsg (dOp addD (dVar 2) (dLst (dCons (dC (.str "Awake")) (dCons (dC (.str "Fogged")) (dCons (dC (.str "Clear")) (dCons (dC (.str "Busy")) (dCons (dC (.str "NoRow")) (dCons (dC (.str "NoBook")) (dCons (dC (.str "Lost")) (dCons (dC (.str "Legible")) (dCons (dC (.str "NothingLeft")) dNil))))))))))) 2) (dSeq (dAsg (dOp addD (dVar 2) (dLst (dCons (dC (.str "BadPlace")) (dCons (dC (.str "BadWord")) (dCons (dC (.str "Taken")) (dCons (dC (.str "Known")) (dCons (dC (.str "NoWord")) dNil))))))) 2) (dSeq (dIf (dB (dOp neI (dBM "list" cntD (dVar 1) (dCons (dC (.bl true)) dNil)) (dC (.int 1)))) (dRet (dC (.str "several"))) dNext) (dRet (dOp ixH (dVar 2) (dBM "list" idxD (dVar 1) (dCons (dC (.bl true)) dNil)))))))))))))) from (qss_cons (qs_set (i := 1) sc__law_kind.nd (qe_lst (qa_cons (qe_isP List.mem_cons_self hz hf hx T.x_BadWay (pv 0) T.f_isinstance) (qa_cons (qe_isP List.mem_cons_self hz hf hx T.x_BadSign (pv 0) T.f_isinstance) (qa_cons (qe_isP List.mem_cons_self hz hf hx T.x_Full (pv 0) T.f_isinstance) (qa_cons (qe_isP List.mem_cons_self hz hf hx T.x_NothingWaits (pv 0) T.f_isinstance) qa_nil)))))) (qss_cons (qs_set (i := 1) sc__law_kind.nd (qe_add (qv 1) (qe_lst (qa_cons (qe_isP List.mem_cons_self hz hf hx T.x_NoMast (pv 0) T.f_isinstance) (qa_cons (qe_isP List.mem_cons_self hz hf hx T.x_NotReady (pv 0) T.f_isinstance) (qa_cons (qe_isP List.mem_cons_self hz hf hx T.x_NotRaising (pv 0) T.f_isinstance) (qa_cons (qe_isP List.mem_cons_self hz hf hx T.x_BadSlip (pv 0) T.f_isinstance) qa_nil))))))) (qss_cons (qs_set (i := 1) sc__law_kind.nd (qe_add (qv 1) (qe_lst (qa_cons (qe_isP List.mem_cons_self hz hf hx T.x_Asleep (pv 0) T.f_isinstance) (qa_cons (qe_isP List.mem_cons_self hz hf hx T.x_Awake (pv 0) T.f_isinstance) (qa_cons (qe_isP List.mem_cons_self hz hf hx T.x_Fogged (pv 0) T.f_isinstance) (qa_cons (qe_isP List.mem_cons_self hz hf hx T.x_Clear (pv 0) T.f_isinstance) qa_nil))))))) (qss_cons (qs_set (i := 1) sc__law_kind.nd (qe_add (qv 1) (qe_lst (qa_cons (qe_isP List.mem_cons_self hz hf hx T.x_Busy (pv 0) T.f_isinstance) (qa_cons (qe_isP List.mem_cons_self hz hf hx T.x_NoRow (pv 0) T.f_isinstance) (qa_cons (qe_isP List.mem_cons_self hz hf hx T.x_NoBook (pv 0) T.f_isinstance) (qa_cons (qe_isP List.mem_cons_self hz hf hx T.x_Lost (pv 0) T.f_isinstance) qa_nil))))))) (qss_cons (qs_set (i := 1) sc__law_kind.nd (qe_add (qv 1) (qe_lst (qa_cons (qe_isP List.mem_cons_self hz hf hx T.x_Legible (pv 0) T.f_isinstance) (qa_cons (qe_isP List.mem_cons_self hz hf hx T.x_NothingLeft (pv 0) T.f_isinstance) (qa_cons (qe_isP List.mem_cons_self hz hf hx T.x_BadPlace (pv 0) T.f_isinstance) qa_nil)))))) (qss_cons (qs_set (i := 1) sc__law_kind.nd (qe_add (qv 1) (qe_lst (qa_cons (qe_isP List.mem_cons_self hz hf hx T.x_BadWord (pv 0) T.f_isinstance) (qa_cons (qe_isP List.mem_cons_self hz hf hx T.x_Taken (pv 0) T.f_isinstance) (qa_cons (qe_isP List.mem_cons_self hz hf hx T.x_Known (pv 0) T.f_isinstance) (qa_cons (qe_isP List.mem_cons_self hz hf hx T.x_NoWord (pv 0) T.f_isinstance) qa_nil))))))) (qss_cons (qs_set (i := 2) sc__law_kind.nd (qe_lst (qa_cons qe_str (qa_cons qe_str (qa_cons qe_str (qa_cons qe_str (qa_cons qe_str (qa_cons qe_str (qa_cons qe_str (qa_cons qe_str (qa_cons qe_str qa_nil))))))))))) (qss_cons (qs_set (i := 2) sc__law_kind.nd (qe_add (qv 2) (qe_lst (qa_cons qe_str (qa_cons qe_str (qa_cons qe_str (qa_cons qe_str (qa_cons qe_str (qa_cons qe_str (qa_cons qe_str (qa_cons qe_str (qa_cons qe_str qa_nil)))))))))))) (qss_cons (qs_set (i := 2) sc__law_kind.nd (qe_add (qv 2) (qe_lst (qa_cons qe_str (qa_cons qe_str (qa_cons qe_str (qa_cons qe_str (qa_cons qe_str qa_nil)))))))) (qss_cons (qs_if (qt_neI (qe_bm PySem.F.plainAttrs_list PySem.F.slot_list_count PySem.F.type_list_count mt_lcnt tr_cnt (qv 1) (qa_cons qe_bl qa_nil)) qe_int) (qss_one (qs_ret qe_str)) qss_nil) (qss_one (qs_ret (qe_ixH (qv 2) (qe_bm PySem.F.plainAttrs_list PySem.F.slot_list_index PySem.F.type_list_index mt_index tr_idx (qv 1) (qa_cons qe_bl qa_nil))))))))))))))))) red
theorem sc__law_do : FnScope ["_law_line", "_law_deed"] ["_law_line", "_law_deed"] (defScope st__law_do) := ⟨rfl, rfl, rfl, by decide +kernel, rfl, by decide +kernel, by decide +kernel⟩
theorem ok__law_do {f : Addr} {fd : FuncData} (F : FunD K "_law_do" "_law_do" (defArgs st__law_do) (defBody st__law_do) (defScope st__law_do) [] [] f fd) (T : Tx K mg) (M_Line_doze : OwnM P w K mg base (He.ga K "Line") "doze" (6) ["self", "mast"] ((sp_Line_doze K))) (M_Line_wake : OwnM P w K mg base (He.ga K "Line") "wake" (6) ["self", "mast"] ((sp_Line_wake K))) (M_Line_fog : OwnM P w K mg base (He.ga K "Line") "fog" (6) ["self", "mast"] ((sp_Line_fog K))) (M_Line_lift : OwnM P w K mg base (He.ga K "Line") "lift" (6) ["self", "mast"] ((sp_Line_lift K)))
    (len : ∀ ds w Q E, ((sp__law_do K)) ds w Q E → ds.length = 2) (red : ∀ ds w Q E, ((sp__law_do K)) ds w Q E → t__law_do K  E { nx := fun _ w1 => Q .non w1, rt := Q } (startD ["_law_line", "_law_deed"] ds) w) : FnOk P w K mg base (L2N.CX P w) (7) f fd ["_law_line", "_law_deed"] (lift K ((sp__law_do K))) :=
  fn_ok F sc__law_do len (fun cdv A outer s H E E' hr => by
    have tk := L2N.takes_of (X := cxOf (L2N.CX P w) P w K mg base ["_law_line", "_law_deed"] "_law_do" (defScope st__law_do) f cdv A outer s H E) (E := E) rfl rfl rfl rfl
    have hp := passes_of (X := cxOf (L2N.CX P w) P w K mg base ["_law_line", "_law_deed"] "_law_do" (defScope st__law_do) f cdv A outer s H E) rfl
    exact (show QSs (cxOf (L2N.CX P w) P w K mg base ["_law_line", "_law_deed"] "_law_do" (defScope st__law_do) f cdv A outer s H E) (fun c d _ H => E c d H) (fun c d _ w => E' c d w) (defBody st__law_do) (dSeq (dIf (dB (dOp (eqD false) (dOp ixD (dVar 1) (dC (.int 0))) (dC (.str "send")))) (dRet dNeverE) dNext) (dSeq (dIf (dB (dOp (eqD false) (dOp ixD (dVar 1) (dC (.int 0))) (dC (.str "express")))) (dRet dNeverE) dNext) (dSeq (dIf (dB (dOp (eqD false) (dOp ixD (dVar 1) (dC (.int 0))) (dC (.str "say")))) (dRet dNeverE) dNext) (dSeq (dIf (dB (dOp (eqD false) (dOp ixD (dVar 1) (dC (.int 0))) (dC (.str "recall")))) (dRet dNeverE) dNext) (dSeq (dIf (dB (dOp (eqD false) (dOp ixD (dVar 1) (dC (.int 0))) (dC (.str "act")))) (dRet dNeverE) dNext) (dSeq (dIf (dB (dOp (eqD false) (dOp ixD (dVar 1) (dC (.int 0))) (dC (.str "slip")))) (dRet dNeverE) dNext) (dSeq (dIf (dB (dOp (eqD false) (dOp ixD (dVar 1) (dC (.int 0))) (dC (.str "doze")))) (dRet (dMeth (He.ga K "Line") "doze" (sp_Line_doze K) (fun c d _ w => E' c d w) (dVar 0) (dCons (dOp ixD (dVar 1) (dC (.int 1))) dNil))) dNext) (dSeq (dIf (dB (dOp (eqD false) (dOp ixD (dVar 1) (dC (.int 0))) (dC (.str "wake")))) (dRet (dMeth (He.ga K "Line") "wake" (sp_Line_wake K) (fun c d _ w => E' c d w) (dVar 0) (dCons (dOp ixD (dVar 1) (dC (.int 1))) dNil))) dNext) (dSeq (dIf (dB (dOp (eqD false) (dOp ixD (dVar 1) (dC (.int 0))) (dC (.str "fog")))) (dRet (dMeth (He.ga K "Line") "fog" (sp_Line_fog K) (fun c d _ w => E' c d w) (dVar 0) (dCons (dOp ixD (dVar 1) (dC (.int 1))) dNil))) dNext) (dSeq (dIf (dB (dOp (eqD false) (dOp ixD (dVar 1) (dC (.int 0))) (dC (.str "lift")))) (dRet (dMeth (He.ga K "Line") "lift" (sp_Line_lift K) (fun c d _ w => E' c d w) (dVar 0) (dCons (dOp ixD (dVar 1) (dC (.int 1))) dNil))) dNext) (dSeq (dIf (dB (dOp (eqD false) (dOp ixD (dVar 1) (dC (.int 0))) (dC (.str "beat")))) (dRet dNeverE) dNext) (dRet dNeverE)))))))))))) from (qss_cons (qs_if (qt_eq hr (qe_sub_ hr (qv 1) qe_int) qe_str) (qss_one (qs_ret qe_neverE)) qss_nil) (qss_cons (qs_if (qt_eq hr (qe_sub_ hr (qv 1) qe_int) qe_str) (qss_one (qs_ret qe_neverE)) qss_nil) (qss_cons (qs_if (qt_eq hr (qe_sub_ hr (qv 1) qe_int) qe_str) (qss_one (qs_ret qe_neverE)) qss_nil) (qss_cons (qs_if (qt_eq hr (qe_sub_ hr (qv 1) qe_int) qe_str) (qss_one (qs_ret qe_neverE)) qss_nil) (qss_cons (qs_if (qt_eq hr (qe_sub_ hr (qv 1) qe_int) qe_str) (qss_one (qs_ret qe_neverE)) qss_nil) (qss_cons (qs_if (qt_eq hr (qe_sub_ hr (qv 1) qe_int) qe_str) (qss_one (qs_ret qe_neverE)) qss_nil) (qss_cons (qs_if (qt_eq hr (qe_sub_ hr (qv 1) qe_int) qe_str) (qss_one (qs_ret (qe_meth M_Line_doze hr tk (qv 0) (qa_cons (qe_sub_ hr (qv 1) qe_int) qa_nil)))) qss_nil) (qss_cons (qs_if (qt_eq hr (qe_sub_ hr (qv 1) qe_int) qe_str) (qss_one (qs_ret (qe_meth M_Line_wake hr tk (qv 0) (qa_cons (qe_sub_ hr (qv 1) qe_int) qa_nil)))) qss_nil) (qss_cons (qs_if (qt_eq hr (qe_sub_ hr (qv 1) qe_int) qe_str) (qss_one (qs_ret (qe_meth M_Line_fog hr tk (qv 0) (qa_cons (qe_sub_ hr (qv 1) qe_int) qa_nil)))) qss_nil) (qss_cons (qs_if (qt_eq hr (qe_sub_ hr (qv 1) qe_int) qe_str) (qss_one (qs_ret (qe_meth M_Line_lift hr tk (qv 0) (qa_cons (qe_sub_ hr (qv 1) qe_int) qa_nil)))) qss_nil) (qss_cons (qs_if (qt_eq hr (qe_sub_ hr (qv 1) qe_int) qe_str) (qss_one (qs_ret qe_neverE)) qss_nil) (qss_one (qs_ret qe_neverE))))))))))))))) red
theorem sc__law_tried : FnScope ["_law_line", "_law_deed", "_law_told", "_law_e"] ["_law_line", "_law_deed"] (defScope st__law_tried) := ⟨rfl, rfl, rfl, by decide +kernel, rfl, by decide +kernel, by decide +kernel⟩
theorem ok__law_tried {f : Addr} {fd : FuncData} (F : FunD K "_law_tried" "_law_tried" (defArgs st__law_tried) (defBody st__law_tried) (defScope st__law_tried) [] [] f fd) (T : Tx K mg) (G__law_do : Own P w K mg base "_law_do" (7) ["_law_line", "_law_deed"] ((sp__law_do K))) (K__law_kind : OwnK P w K mg base "_law_kind" (1) ["_law_e"] ((sp__law_kind K)))
    (len : ∀ ds w Q E, ((sp__law_tried K)) ds w Q E → ds.length = 2) (red : ∀ ds w Q E, ((sp__law_tried K)) ds w Q E → t__law_tried K  E { nx := fun _ w1 => Q .non w1, rt := Q } (startD ["_law_line", "_law_deed", "_law_told", "_law_e"] ds) w) : FnOk P w K mg base (L2N.CX P w) (8) f fd ["_law_line", "_law_deed"] (lift K ((sp__law_tried K))) :=
  fn_ok F sc__law_tried len (fun cdv A outer s H E E' hr => by
    have tk := L2N.takes_of (X := cxOf (L2N.CX P w) P w K mg base ["_law_line", "_law_deed", "_law_told", "_law_e"] "_law_tried" (defScope st__law_tried) f cdv A outer s H E) (E := E) rfl rfl rfl rfl
    have hp := passes_of (X := cxOf (L2N.CX P w) P w K mg base ["_law_line", "_law_deed", "_law_told", "_law_e"] "_law_tried" (defScope st__law_tried) f cdv A outer s H E) rfl
    exact (show QSs (cxOf (L2N.CX P w) P w K mg base ["_law_line", "_law_deed", "_law_told", "_law_e"] "_law_tried" (defScope st__law_tried) f cdv A outer s H E) (fun c d _ H => E c d H) (fun c d _ w => E' c d w) (defBody st__law_tried) (dSeq (dAsg (dTup (dCons (dC (.str "no")) (dCons (dC (.str "")) dNil))) 2) (dCut (dTryAs K (cls K "MastError") 3 (fun V' => (dAsg (dTup (dCons (dC (.str "told")) (dCons (dCall ((sp__law_do K)) V' (dCons (dVar 0) (dCons (dVar 1) dNil))) dNil))) 2)) (fun a cl x => (dAsg (dTup (dCons (dC (.str "no")) (dCons (dCallK 3 a cl x ((sp__law_kind K))) dNil))) 2)) (fun c d _ w => E' c d w)) (dRet (dVar 2)))) from (qss_cons (qs_set (i := 2) sc__law_tried.nd (qe_tup (qa_cons qe_str (qa_cons qe_str qa_nil)))) (qss_cut (qs_tryAs (i := 3) sc__law_tried.nd ⟨rfl, by decide, .inl T.x_MastError.g⟩ tk (fun _ V' pn xe tk hp => (qss_one (qs_set (i := 2) sc__law_tried.nd (qe_tup (qa_cons qe_str (qa_cons (qe_fn G__law_do hr tk (qa_cons (qv 0) (qa_cons (qv 1) qa_nil))) qa_nil)))))) (fun a oe cl d pn x hz hf hx => (qss_one (qs_set (i := 2) sc__law_tried.nd (qe_tup (qa_cons qe_str (qa_cons (qe_callK K__law_kind hr hz hf hx (pv 3)) qa_nil))))))) (qss_one (qs_ret (qv 2))))))) red
theorem sc_law : FnScope ["_law_script", "_law_masts", "_law_line", "_law_state", "_law_at", "_law_nums", "_law_spot", "_law_deed", "_law_due", "_law_found"] ["_law_script"] (defScope st_law) := ⟨rfl, rfl, rfl, by decide +kernel, rfl, by decide +kernel, by decide +kernel⟩
theorem ok_law {f : Addr} {fd : FuncData} (F : FunD K "law" "law" (defArgs st_law) (defBody st_law) (defScope st_law) [] [] f fd) (T : Tx K mg) (G__law_cell : Own P w K mg base "_law_cell" (1) ["_law_script", "_law_at"] (sp__law_cell)) (C_Line : OwnC P w K mg base "Line" (3) ["self", "masts"] ((sp_Line_init K))) (G__law_row : Own P w K mg base "_law_row" (1) ["_law_cell_here", "_law_many", "_law_size"] (sp__law_row)) (G__law_sky_deed : Own P w K mg base "_law_sky_deed" (1) ["_law_state", "_law_deed"] (sp__law_sky_deed)) (G__law_tried : Own P w K mg base "_law_tried" (8) ["_law_line", "_law_deed"] ((sp__law_tried K))) (G__law_like : Own P w K mg base "_law_like" (4) ["_law_found", "_law_due"] (sp_like 3)) (M_Line_fogs : OwnM P w K mg base (He.ga K "Line") "fogs" (1) ["self"] ((sp_Line_fogs K))) (M_Line_asleep : OwnM P w K mg base (He.ga K "Line") "asleep" (1) ["self"] ((sp_Line_asleep K)))
    (len : ∀ ds w Q E, (sp_law) ds w Q E → ds.length = 1) (red : ∀ ds w Q E, (sp_law) ds w Q E → t_law K  E { nx := fun _ w1 => Q .non w1, rt := Q } (startD ["_law_script", "_law_masts", "_law_line", "_law_state", "_law_at", "_law_nums", "_law_spot", "_law_deed", "_law_due", "_law_found"] ds) w) : FnOk P w K mg base (L2N.CX P w) (9) f fd ["_law_script"] (lift K (sp_law)) :=
  fn_ok F sc_law len (fun cdv A outer s H E E' hr => by
    have tk := L2N.takes_of (X := cxOf (L2N.CX P w) P w K mg base ["_law_script", "_law_masts", "_law_line", "_law_state", "_law_at", "_law_nums", "_law_spot", "_law_deed", "_law_due", "_law_found"] "law" (defScope st_law) f cdv A outer s H E) (E := E) rfl rfl rfl rfl
    have hp := passes_of (X := cxOf (L2N.CX P w) P w K mg base ["_law_script", "_law_masts", "_law_line", "_law_state", "_law_at", "_law_nums", "_law_spot", "_law_deed", "_law_due", "_law_found"] "law" (defScope st_law) f cdv A outer s H E) rfl
    exact (show QSs (cxOf (L2N.CX P w) P w K mg base ["_law_script", "_law_masts", "_law_line", "_law_state", "_law_at", "_law_nums", "_law_spot", "_law_deed", "_law_due", "_law_found"] "law" (defScope st_law) f cdv A outer s H E) (fun c d _ H => E c d H) (fun c d _ w => E' c d w) (defBody st_law) (dSeq (dAsg (dOp addD (dC (.int 2)) (dOp modD (dCall sp__law_cell (fun c d _ w => E' c d w) (dCons (dVar 0) (dCons (dC (.int 0)) dNil))) (dC (.int 11)))) 1) (dSeq (dAsg (dMake (He.ga K "Line") (sp_Line_init K) (fun c d _ w => E' c d w) (dCons (dVar 1) dNil)) 2) (dSeq (dAsg (dDisp ["masts", "asleep", "fogs"] (dCons (dVar 1) (dCons (dLstO dNil) (dCons (dLstO dNil) dNil)))) 3) (dSeq (dFor (diR2 (dCons (dC (.int 1)) (dCons (dCB maxD (dCons (dC (.int 16)) (dCons (dCB minD (dCons (dC (.int 61)) (dCons (dCB lenD (dCons (dVar 0) dNil)) dNil))) dNil))) dNil))) (dgName 4) (dSeq (dAsg (dCall sp__law_row (fun c d _ w => E' c d w) (dCons (dCall sp__law_cell (fun c d _ w => E' c d w) (dCons (dVar 0) (dCons (dVar 4) dNil))) (dCons (dC (.int 3)) (dCons (dC (.int 9240)) dNil)))) 5) (dSeq (dAsg (dOp subD (dOp modD (dOp ixD (dVar 5) (dC (.int 1))) (dOp addD (dVar 1) (dC (.int 3)))) (dC (.int 1))) 6) (dCut (dIf (dB (dOp (eqD false) (dOp modD (dOp ixD (dVar 5) (dC (.int 2))) (dC (.int 29))) (dC (.int 0)))) (dAsg (dOp ixD (dTup (dCons (dOp powD (dC (.int 10)) (dC (.int 30))) (dCons (dOp subD (dC (.int 0)) (dOp powD (dC (.int 10)) (dC (.int 30)))) dNil))) (dOp modD (dOp ixD (dVar 5) (dC (.int 1))) (dC (.int 2)))) 6) dNext) (dSeq (dAsg (dTup (dCons (dOp ixD (dTup (dCons (dC (.str "doze")) (dCons (dC (.str "wake")) (dCons (dC (.str "fog")) (dCons (dC (.str "lift")) (dCons (dC (.str "doze")) (dCons (dC (.str "fog")) dNil))))))) (dOp modD (dOp ixD (dVar 5) (dC (.int 0))) (dC (.int 6)))) (dCons (dVar 6) dNil))) 7) (dSeq (dAsg (dCall sp__law_sky_deed (fun c d _ w => E' c d w) (dCons (dVar 3) (dCons (dVar 7) dNil))) 8) (dSeq (dIf (dNot (dB (dCall (sp_like 3) (fun c d _ w => E' c d w) (dCons (dCall ((sp__law_tried K)) (fun c d _ w => E' c d w) (dCons (dVar 2) (dCons (dVar 7) dNil))) (dCons (dVar 8) dNil))))) (dRet (dC (.bl false))) dNext) (dSeq (dAsg (dLst (dCons (dMeth (He.ga K "Line") "asleep" (sp_Line_asleep K) (fun c d _ w => E' c d w) (dVar 2) dNil) (dCons (dMeth (He.ga K "Line") "fogs" (sp_Line_fogs K) (fun c d _ w => E' c d w) (dVar 2) dNil) dNil))) 9) (dSeq (dIf (dAnd (dB (dOp gtD (dOp modD (dOp ixD (dVar 5) (dC (.int 2))) (dC (.int 4))) (dC (.int 0)))) (dNot (dB (dCall (sp_like 3) (fun c d _ w => E' c d w) (dCons (dVar 9) (dCons (dLst (dCons (dOp ixD (dVar 3) (dC (.str "asleep"))) (dCons (dOp ixD (dVar 3) (dC (.str "fogs"))) dNil))) dNil)))))) (dRet (dC (.bl false))) dNext) (dSeq (dDrop (dBM "list" appD (dOp ixD (dVar 9) (dC (.int 0))) (dCons (dC (.int 0)) dNil))) (dDrop (dBM "list" appD (dOp ixD (dVar 9) (dC (.int 1))) (dCons (dC (.int 0)) dNil))))))))))))) (dRet (dCall (sp_like 3) (fun c d _ w => E' c d w) (dCons (dLst (dCons (dMeth (He.ga K "Line") "asleep" (sp_Line_asleep K) (fun c d _ w => E' c d w) (dVar 2) dNil) (dCons (dMeth (He.ga K "Line") "fogs" (sp_Line_fogs K) (fun c d _ w => E' c d w) (dVar 2) dNil) dNil))) (dCons (dLst (dCons (dOp ixD (dVar 3) (dC (.str "asleep"))) (dCons (dOp ixD (dVar 3) (dC (.str "fogs"))) dNil))) dNil)))))))) from (qss_cons (qs_set (i := 1) sc_law.nd (qe_add qe_int (qe_mod (qe_fn G__law_cell hr tk (qa_cons (qv 0) (qa_cons qe_int qa_nil))) qe_int))) (qss_cons (qs_set (i := 2) sc_law.nd (qe_make C_Line hr tk (qa_cons (qv 1) qa_nil))) (qss_cons (qs_set (i := 3) sc_law.nd (qe_disp (qd_cons (qv 1) (qd_cons (qe_lstO qa_nil) (qd_cons (qe_lstO qa_nil) qd_nil))))) (qss_cons (qs_for hp rfl (qi_range2 T.f_range (qa_cons qe_int (qa_cons (qe_callB (CallR.or (call_max2 rfl) (cr_max rfl)) tr_max T.f_max (by decide +kernel) (qa_cons qe_int (qa_cons (qe_callB (CallR.or (call_min2 rfl) (cr_min rfl)) tr_min T.f_min (by decide +kernel) (qa_cons qe_int (qa_cons (qe_len T.f_len (qa_cons (qv 0) qa_nil)) qa_nil))) qa_nil))) qa_nil))) (qg_name (i := 4) sc_law.nd) (qss_cons (qs_set (i := 5) sc_law.nd (qe_fn G__law_row hr tk (qa_cons (qe_fn G__law_cell hr tk (qa_cons (qv 0) (qa_cons (qv 4) qa_nil))) (qa_cons qe_int (qa_cons qe_int qa_nil))))) (qss_cons (qs_set (i := 6) sc_law.nd (qe_sub (qe_mod (qe_sub_ hr (qv 5) qe_int) (qe_add (qv 1) qe_int)) qe_int)) (qss_cut (qs_if (qt_eq hr (qe_mod (qe_sub_ hr (qv 5) qe_int) qe_int) qe_int) (qss_one (qs_set (i := 6) sc_law.nd (qe_sub_ hr (qe_tup (qa_cons (qe_pow qe_int qe_int) (qa_cons (qe_sub qe_int (qe_pow qe_int qe_int)) qa_nil))) (qe_mod (qe_sub_ hr (qv 5) qe_int) qe_int)))) qss_nil) (qss_cons (qs_set (i := 7) sc_law.nd (qe_tup (qa_cons (qe_sub_ hr (qe_tup (qa_cons qe_str (qa_cons qe_str (qa_cons qe_str (qa_cons qe_str (qa_cons qe_str (qa_cons qe_str qa_nil))))))) (qe_mod (qe_sub_ hr (qv 5) qe_int) qe_int)) (qa_cons (qv 6) qa_nil)))) (qss_cons (qs_set (i := 8) sc_law.nd (qe_fn G__law_sky_deed hr tk (qa_cons (qv 3) (qa_cons (qv 7) qa_nil)))) (qss_cons (qs_if (qt_not (qt_val (qe_fn G__law_like hr tk (qa_cons (qe_fn G__law_tried hr tk (qa_cons (qv 2) (qa_cons (qv 7) qa_nil))) (qa_cons (qv 8) qa_nil))))) (qss_one (qs_ret qe_bl)) qss_nil) (qss_cons (qs_set (i := 9) sc_law.nd (qe_lst (qa_cons (qe_meth0 M_Line_asleep hr tk (qv 2)) (qa_cons (qe_meth0 M_Line_fogs hr tk (qv 2)) qa_nil)))) (qss_cons (qs_if (qt_bool (qw_and (qt_gt (qe_mod (qe_sub_ hr (qv 5) qe_int) qe_int) qe_int) (qw_and1 (qt_not (qt_val (qe_fn G__law_like hr tk (qa_cons (qv 9) (qa_cons (qe_lst (qa_cons (qe_sub_ hr (qv 3) qe_str) (qa_cons (qe_sub_ hr (qv 3) qe_str) qa_nil))) qa_nil)))))))) (qss_one (qs_ret qe_bl)) qss_nil) (qss_cons (qs_expr (qe_bm PySem.F.plainAttrs_list PySem.F.slot_list_append PySem.F.type_list_append mt_append tr_app (qe_sub_ hr (qv 9) qe_int) (qa_cons qe_int qa_nil))) (qss_one (qs_expr (qe_bm PySem.F.plainAttrs_list PySem.F.slot_list_append PySem.F.type_list_append mt_append tr_app (qe_sub_ hr (qv 9) qe_int) (qa_cons qe_int qa_nil)))))))))))))) (qss_one (qs_ret (qe_fn G__law_like hr tk (qa_cons (qe_lst (qa_cons (qe_meth0 M_Line_asleep hr tk (qv 2)) (qa_cons (qe_meth0 M_Line_fogs hr tk (qv 2)) qa_nil))) (qa_cons (qe_lst (qa_cons (qe_sub_ hr (qv 3) qe_str) (qa_cons (qe_sub_ hr (qv 3) qe_str) qa_nil))) qa_nil))))))))))) red
theorem sc_Books_init : FnScope ["self", "masts", "way"] ["self", "masts"] (defScope st_Books_init) := ⟨rfl, rfl, rfl, by decide +kernel, rfl, by decide +kernel, by decide +kernel⟩
theorem ok_Books_init {f : Addr} {fd : FuncData} (F : FunD K "__init__" "Books.__init__" (defArgs st_Books_init) (defBody st_Books_init) (defScope st_Books_init) [] [] f fd) (T : Tx K mg)
    (len : ∀ ds w Q E, ((sp_Books_init K)) ds w Q E → ds.length = 2) (red : ∀ ds w Q E, ((sp_Books_init K)) ds w Q E → t_Books_init K  E { nx := fun _ w1 => Q .non w1, rt := Q } (startD ["self", "masts", "way"] ds) w) : FnOk P w K mg base (L2N.CX P w) (1) f fd ["self", "masts"] (lift K ((sp_Books_init K))) :=
  fn_ok F sc_Books_init len (fun cdv A outer s H E E' hr => by
    have tk := L2N.takes_of (X := cxOf (L2N.CX P w) P w K mg base ["self", "masts", "way"] "Books.__init__" (defScope st_Books_init) f cdv A outer s H E) (E := E) rfl rfl rfl rfl
    have hp := passes_of (X := cxOf (L2N.CX P w) P w K mg base ["self", "masts", "way"] "Books.__init__" (defScope st_Books_init) f cdv A outer s H E) rfl
    exact (show QSs (cxOf (L2N.CX P w) P w K mg base ["self", "masts", "way"] "Books.__init__" (defScope st_Books_init) f cdv A outer s H E) (fun c d _ H => E c d H) (fun c d _ w => E' c d w) (defBody st_Books_init) (dSeq (dFldS (He.ga K "Books") "size" (dVar 0) (dVar 1)) (dSeq (dFldS (He.ga K "Books") "written" (dVar 0) dNewK) (dSeq (dFldS (He.ga K "Books") "gone" (dVar 0) dNewT) (dFor (diT (dC (.rot [.str "up", .str "down"]))) (dgName 2) (dSetK (dOp mulDO (dLst (dCons (dTup dNil) dNil)) (dVar 1)) (dFld (He.ga K "Books") "written" (dVar 0)) (dVar 2)))))) from (qss_cons (qs_fld T.o_Books (qv 0) (qv 1)) (qss_cons (qs_fld T.o_Books (qv 0) qe_newK) (qss_cons (qs_fld T.o_Books (qv 0) qe_newT) (qss_one (qs_for hp rfl (qi_tup (qe_gobj T.c_WAYS)) (qg_name (i := 2) sc_Books_init.nd) (qss_one (qs_dput hr (qe_mulO (qe_lst (qa_cons (qe_tup qa_nil) qa_nil)) (qv 1)) (qe_fld T.o_Books (qv 0)) (qv 2)))))))))) red
theorem sc_Books_copied : FnScope ["self", "other", "way"] ["self"] (defScope st_Books_copied) := ⟨rfl, rfl, rfl, by decide +kernel, rfl, by decide +kernel, by decide +kernel⟩
theorem ok_Books_copied {f : Addr} {fd : FuncData} (F : FunD K "copied" "Books.copied" (defArgs st_Books_copied) (defBody st_Books_copied) (defScope st_Books_copied) [] [] f fd) (T : Tx K mg) (C_Books : OwnC P w K mg base "Books" (1) ["self", "masts"] ((sp_Books_init K)))
    (len : ∀ ds w Q E, ((sp_Books_copied K)) ds w Q E → ds.length = 1) (red : ∀ ds w Q E, ((sp_Books_copied K)) ds w Q E → t_Books_copied K  E { nx := fun _ w1 => Q .non w1, rt := Q } (startD ["self", "other", "way"] ds) w) : FnOk P w K mg base (L2N.CX P w) (3) f fd ["self"] (lift K ((sp_Books_copied K))) :=
  fn_ok F sc_Books_copied len (fun cdv A outer s H E E' hr => by
    have tk := L2N.takes_of (X := cxOf (L2N.CX P w) P w K mg base ["self", "other", "way"] "Books.copied" (defScope st_Books_copied) f cdv A outer s H E) (E := E) rfl rfl rfl rfl
    have hp := passes_of (X := cxOf (L2N.CX P w) P w K mg base ["self", "other", "way"] "Books.copied" (defScope st_Books_copied) f cdv A outer s H E) rfl
    exact (show QSs (cxOf (L2N.CX P w) P w K mg base ["self", "other", "way"] "Books.copied" (defScope st_Books_copied) f cdv A outer s H E) (fun c d _ H => E c d H) (fun c d _ w => E' c d w) (defBody st_Books_copied) (dSeq (dAsg (dMake (He.ga K "Books") (sp_Books_init K) (fun c d _ w => E' c d w) (dCons (dFld (He.ga K "Books") "size" (dVar 0)) dNil)) 1) (dSeq (dFor (diT (dC (.rot [.str "up", .str "down"]))) (dgName 2) (dSetK (dCB (listD true) (dCons (dOp ixD (dFld (He.ga K "Books") "written" (dVar 0)) (dVar 2)) dNil)) (dFld (He.ga K "Books") "written" (dVar 1)) (dVar 2))) (dSeq (dFldS (He.ga K "Books") "gone" (dVar 1) (dCB (copyT true) (dCons (dFld (He.ga K "Books") "gone" (dVar 0)) dNil))) (dRet (dVar 1))))) from (qss_cons (qs_set (i := 1) sc_Books_copied.nd (qe_make C_Books hr tk (qa_cons (qe_fld T.o_Books (qv 0)) qa_nil))) (qss_cons (qs_for hp rfl (qi_tup (qe_gobj T.c_WAYS)) (qg_name (i := 2) sc_Books_copied.nd) (qss_one (qs_dput hr (qe_callTy call_list_of (tr_list (own := true)) T.f_list (by decide +kernel) (qa_cons (qe_sub_ hr (qe_fld T.o_Books (qv 0)) (qv 2)) qa_nil)) (qe_fld T.o_Books (qv 1)) (qv 2)))) (qss_cons (qs_fld T.o_Books (qv 1) (qe_callTy (call_dictT hr.units) (tr_copyT (own := true)) T.f_dict (by decide +kernel) (qa_cons (qe_fld T.o_Books (qv 0)) qa_nil))) (qss_one (qs_ret (qv 1)))))))) red
theorem sc_Phrasebook_init : FnScope ["self"] ["self"] (defScope st_Phrasebook_init) := ⟨rfl, rfl, rfl, by decide +kernel, rfl, by decide +kernel, by decide +kernel⟩
theorem ok_Phrasebook_init {f : Addr} {fd : FuncData} (F : FunD K "__init__" "Phrasebook.__init__" (defArgs st_Phrasebook_init) (defBody st_Phrasebook_init) (defScope st_Phrasebook_init) [] [] f fd) (T : Tx K mg)
    (len : ∀ ds w Q E, ((sp_Phrasebook_init K)) ds w Q E → ds.length = 1) (red : ∀ ds w Q E, ((sp_Phrasebook_init K)) ds w Q E → t_Phrasebook_init K  E { nx := fun _ w1 => Q .non w1, rt := Q } (startD ["self"] ds) w) : FnOk P w K mg base (L2N.CX P w) (1) f fd ["self"] (lift K ((sp_Phrasebook_init K))) :=
  fn_ok F sc_Phrasebook_init len (fun cdv A outer s H E E' hr => by
    have tk := L2N.takes_of (X := cxOf (L2N.CX P w) P w K mg base ["self"] "Phrasebook.__init__" (defScope st_Phrasebook_init) f cdv A outer s H E) (E := E) rfl rfl rfl rfl
    have hp := passes_of (X := cxOf (L2N.CX P w) P w K mg base ["self"] "Phrasebook.__init__" (defScope st_Phrasebook_init) f cdv A outer s H E) rfl
    exact (show QSs (cxOf (L2N.CX P w) P w K mg base ["self"] "Phrasebook.__init__" (defScope st_Phrasebook_init) f cdv A outer s H E) (fun c d _ H => E c d H) (fun c d _ w => E' c d w) (defBody st_Phrasebook_init) (dSeq (dFldS (He.ga K "Phrasebook") "by_place" (dVar 0) dNewT) (dFldS (He.ga K "Phrasebook") "by_word" (dVar 0) dNewK)) from (qss_cons (qs_fld T.o_Phrasebook (qv 0) qe_newT) (qss_one (qs_fld T.o_Phrasebook (qv 0) qe_newK))))) red
theorem sc_Phrasebook_copied : FnScope ["self", "other"] ["self"] (defScope st_Phrasebook_copied) := ⟨rfl, rfl, rfl, by decide +kernel, rfl, by decide +kernel, by decide +kernel⟩
theorem ok_Phrasebook_copied {f : Addr} {fd : FuncData} (F : FunD K "copied" "Phrasebook.copied" (defArgs st_Phrasebook_copied) (defBody st_Phrasebook_copied) (defScope st_Phrasebook_copied) [] [] f fd) (T : Tx K mg) (C_Phrasebook : OwnC P w K mg base "Phrasebook" (1) ["self"] ((sp_Phrasebook_init K)))
    (len : ∀ ds w Q E, ((sp_Phrasebook_copied K)) ds w Q E → ds.length = 1) (red : ∀ ds w Q E, ((sp_Phrasebook_copied K)) ds w Q E → t_Phrasebook_copied K  E { nx := fun _ w1 => Q .non w1, rt := Q } (startD ["self", "other"] ds) w) : FnOk P w K mg base (L2N.CX P w) (3) f fd ["self"] (lift K ((sp_Phrasebook_copied K))) :=
  fn_ok F sc_Phrasebook_copied len (fun cdv A outer s H E E' hr => by
    have tk := L2N.takes_of (X := cxOf (L2N.CX P w) P w K mg base ["self", "other"] "Phrasebook.copied" (defScope st_Phrasebook_copied) f cdv A outer s H E) (E := E) rfl rfl rfl rfl
    have hp := passes_of (X := cxOf (L2N.CX P w) P w K mg base ["self", "other"] "Phrasebook.copied" (defScope st_Phrasebook_copied) f cdv A outer s H E) rfl
    exact (show QSs (cxOf (L2N.CX P w) P w K mg base ["self", "other"] "Phrasebook.copied" (defScope st_Phrasebook_copied) f cdv A outer s H E) (fun c d _ H => E c d H) (fun c d _ w => E' c d w) (defBody st_Phrasebook_copied) (dSeq (dAsg (dMake (He.ga K "Phrasebook") (sp_Phrasebook_init K) (fun c d _ w => E' c d w) dNil) 1) (dSeq (dFldS (He.ga K "Phrasebook") "by_place" (dVar 1) (dCB (copyT true) (dCons (dFld (He.ga K "Phrasebook") "by_place" (dVar 0)) dNil))) (dSeq (dFldS (He.ga K "Phrasebook") "by_word" (dVar 1) (dCB (copyK true) (dCons (dFld (He.ga K "Phrasebook") "by_word" (dVar 0)) dNil))) (dRet (dVar 1))))) from (qss_cons (qs_set (i := 1) sc_Phrasebook_copied.nd (qe_make0 C_Phrasebook hr tk)) (qss_cons (qs_fld T.o_Phrasebook (qv 1) (qe_callTy (call_dictT hr.units) (tr_copyT (own := true)) T.f_dict (by decide +kernel) (qa_cons (qe_fld T.o_Phrasebook (qv 0)) qa_nil))) (qss_cons (qs_fld T.o_Phrasebook (qv 1) (qe_callTy call_dictD (tr_copyK (own := true)) T.f_dict (by decide +kernel) (qa_cons (qe_fld T.o_Phrasebook (qv 0)) qa_nil))) (qss_one (qs_ret (qv 1)))))))) red
theorem sc_Line_init : FnScope ["self", "masts"] ["self", "masts"] (defScope st_Line_init) := ⟨rfl, rfl, rfl, by decide +kernel, rfl, by decide +kernel, by decide +kernel⟩
theorem ok_Line_init {f : Addr} {fd : FuncData} (F : FunD K "__init__" "Line.__init__" (defArgs st_Line_init) (defBody st_Line_init) (defScope st_Line_init) [] [] f fd) (T : Tx K mg) (G_check_masts : Own P w K mg base "check_masts" (1) ["masts"] ((sp_check_masts K))) (C_Books : OwnC P w K mg base "Books" (1) ["self", "masts"] ((sp_Books_init K))) (C_Phrasebook : OwnC P w K mg base "Phrasebook" (1) ["self"] ((sp_Phrasebook_init K)))
    (len : ∀ ds w Q E, ((sp_Line_init K)) ds w Q E → ds.length = 2) (red : ∀ ds w Q E, ((sp_Line_init K)) ds w Q E → t_Line_init K  E { nx := fun _ w1 => Q .non w1, rt := Q } (startD ["self", "masts"] ds) w) : FnOk P w K mg base (L2N.CX P w) (3) f fd ["self", "masts"] (lift K ((sp_Line_init K))) :=
  fn_ok F sc_Line_init len (fun cdv A outer s H E E' hr => by
    have tk := L2N.takes_of (X := cxOf (L2N.CX P w) P w K mg base ["self", "masts"] "Line.__init__" (defScope st_Line_init) f cdv A outer s H E) (E := E) rfl rfl rfl rfl
    have hp := passes_of (X := cxOf (L2N.CX P w) P w K mg base ["self", "masts"] "Line.__init__" (defScope st_Line_init) f cdv A outer s H E) rfl
    exact (show QSs (cxOf (L2N.CX P w) P w K mg base ["self", "masts"] "Line.__init__" (defScope st_Line_init) f cdv A outer s H E) (fun c d _ H => E c d H) (fun c d _ w => E' c d w) (defBody st_Line_init) (dSeq (dDrop (dCall ((sp_check_masts K)) (fun c d _ w => E' c d w) (dCons (dVar 1) dNil))) (dSeq (dFldS (He.ga K "Line") "length" (dVar 0) (dVar 1)) (dSeq (dFldS (He.ga K "Line") "going" (dVar 0) (dC (.str "up"))) (dSeq (dFldS (He.ga K "Line") "shown" (dVar 0) (dOp mulDO (dLst (dCons (dC (.int 0)) dNil)) (dVar 1))) (dSeq (dFldS (He.ga K "Line") "queues" (dVar 0) (dDisp ["up", "down"] (dCons (dTup dNil) (dCons (dTup dNil) dNil)))) (dSeq (dFldS (He.ga K "Line") "sleepers" (dVar 0) dNewK) (dSeq (dFldS (He.ga K "Line") "clouds" (dVar 0) dNewK) (dSeq (dFldS (He.ga K "Line") "books" (dVar 0) (dMake (He.ga K "Books") (sp_Books_init K) (fun c d _ w => E' c d w) (dCons (dVar 1) dNil))) (dSeq (dFldS (He.ga K "Line") "phrases" (dVar 0) (dMake (He.ga K "Phrasebook") (sp_Phrasebook_init K) (fun c d _ w => E' c d w) dNil)) (dSeq (dFldS (He.ga K "Line") "told" (dVar 0) (dLstO dNil)) (dSeq (dFldS (He.ga K "Line") "past" (dVar 0) (dLstO dNil)) (dFldS (He.ga K "Line") "ahead" (dVar 0) (dLstO dNil))))))))))))) from (qss_cons (qs_expr (qe_fn G_check_masts hr tk (qa_cons (qv 1) qa_nil))) (qss_cons (qs_fld T.o_Line (qv 0) (qv 1)) (qss_cons (qs_fld T.o_Line (qv 0) qe_str) (qss_cons (qs_fld T.o_Line (qv 0) (qe_mulO (qe_lst (qa_cons (qe_gint T.c_REST) qa_nil)) (qv 1))) (qss_cons (qs_fld T.o_Line (qv 0) (qe_disp (qd_cons (qe_tup qa_nil) (qd_cons (qe_tup qa_nil) qd_nil)))) (qss_cons (qs_fld T.o_Line (qv 0) qe_newK) (qss_cons (qs_fld T.o_Line (qv 0) qe_newK) (qss_cons (qs_fld T.o_Line (qv 0) (qe_make C_Books hr tk (qa_cons (qv 1) qa_nil))) (qss_cons (qs_fld T.o_Line (qv 0) (qe_make0 C_Phrasebook hr tk)) (qss_cons (qs_fld T.o_Line (qv 0) (qe_lstO qa_nil)) (qss_cons (qs_fld T.o_Line (qv 0) (qe_lstO qa_nil)) (qss_one (qs_fld T.o_Line (qv 0) (qe_lstO qa_nil)))))))))))))))) red
theorem sc_Line_state : FnScope ["self", "still"] ["self"] (defScope st_Line_state) := ⟨rfl, rfl, rfl, by decide +kernel, rfl, by decide +kernel, by decide +kernel⟩
theorem ok_Line_state {f : Addr} {fd : FuncData} (F : FunD K "state" "Line.state" (defArgs st_Line_state) (defBody st_Line_state) (defScope st_Line_state) [] [] f fd) (T : Tx K mg) (M_Phrasebook_copied : OwnM P w K mg base (He.ga K "Phrasebook") "copied" (3) ["self"] ((sp_Phrasebook_copied K))) (M_Books_copied : OwnM P w K mg base (He.ga K "Books") "copied" (3) ["self"] ((sp_Books_copied K)))
    (len : ∀ ds w Q E, ((sp_Line_state K)) ds w Q E → ds.length = 1) (red : ∀ ds w Q E, ((sp_Line_state K)) ds w Q E → t_Line_state K  E { nx := fun _ w1 => Q .non w1, rt := Q } (startD ["self", "still"] ds) w) : FnOk P w K mg base (L2N.CX P w) (4) f fd ["self"] (lift K ((sp_Line_state K))) :=
  fn_ok F sc_Line_state len (fun cdv A outer s H E E' hr => by
    have tk := L2N.takes_of (X := cxOf (L2N.CX P w) P w K mg base ["self", "still"] "Line.state" (defScope st_Line_state) f cdv A outer s H E) (E := E) rfl rfl rfl rfl
    have hp := passes_of (X := cxOf (L2N.CX P w) P w K mg base ["self", "still"] "Line.state" (defScope st_Line_state) f cdv A outer s H E) rfl
    exact (show QSs (cxOf (L2N.CX P w) P w K mg base ["self", "still"] "Line.state" (defScope st_Line_state) f cdv A outer s H E) (fun c d _ H => E c d H) (fun c d _ w => E' c d w) (defBody st_Line_state) (dSeq (dAsg (dTup (dCons (dFld (He.ga K "Line") "going" (dVar 0)) (dCons (dCB (listD false) (dCons (dFld (He.ga K "Line") "shown" (dVar 0)) dNil)) (dCons (dCB (copyK false) (dCons (dFld (He.ga K "Line") "queues" (dVar 0)) dNil)) (dCons (dCB (copyK false) (dCons (dFld (He.ga K "Line") "sleepers" (dVar 0)) dNil)) (dCons (dCB (copyK false) (dCons (dFld (He.ga K "Line") "clouds" (dVar 0)) dNil)) dNil)))))) 1) (dRet (dOp addD (dVar 1) (dTup (dCons (dFz (dMeth (He.ga K "Books") "copied" (sp_Books_copied K) (fun c d _ w => E' c d w) (dFld (He.ga K "Line") "books" (dVar 0)) dNil)) (dCons (dFz (dMeth (He.ga K "Phrasebook") "copied" (sp_Phrasebook_copied K) (fun c d _ w => E' c d w) (dFld (He.ga K "Line") "phrases" (dVar 0)) dNil)) (dCons (dCB (listD false) (dCons (dFld (He.ga K "Line") "told" (dVar 0)) dNil)) dNil))))))) from (qss_cons (qs_set (i := 1) sc_Line_state.nd (qe_tup (qa_cons (qe_fld T.o_Line (qv 0)) (qa_cons (qe_callTy call_list_of (tr_list (own := false)) T.f_list (by decide +kernel) (qa_cons (qe_fld T.o_Line (qv 0)) qa_nil)) (qa_cons (qe_callTy call_dictD (tr_copyK (own := false)) T.f_dict (by decide +kernel) (qa_cons (qe_fld T.o_Line (qv 0)) qa_nil)) (qa_cons (qe_callTy call_dictD (tr_copyK (own := false)) T.f_dict (by decide +kernel) (qa_cons (qe_fld T.o_Line (qv 0)) qa_nil)) (qa_cons (qe_callTy call_dictD (tr_copyK (own := false)) T.f_dict (by decide +kernel) (qa_cons (qe_fld T.o_Line (qv 0)) qa_nil)) qa_nil))))))) (qss_one (qs_ret (qe_add (qv 1) (qe_tup (qa_cons (qe_fz (qe_meth0 M_Books_copied hr tk (qe_fld T.o_Line (qv 0)))) (qa_cons (qe_fz (qe_meth0 M_Phrasebook_copied hr tk (qe_fld T.o_Line (qv 0)))) (qa_cons (qe_callTy call_list_of (tr_list (own := false)) T.f_list (by decide +kernel) (qa_cons (qe_fld T.o_Line (qv 0)) qa_nil)) qa_nil)))))))))) red
theorem sc_Line_keep : FnScope ["self", "deed"] ["self", "deed"] (defScope st_Line_keep) := ⟨rfl, rfl, rfl, by decide +kernel, rfl, by decide +kernel, by decide +kernel⟩
theorem ok_Line_keep {f : Addr} {fd : FuncData} (F : FunD K "keep" "Line.keep" (defArgs st_Line_keep) (defBody st_Line_keep) (defScope st_Line_keep) [] [] f fd) (T : Tx K mg) (M_Line_state : OwnM P w K mg base (He.ga K "Line") "state" (4) ["self"] ((sp_Line_state K))) (G_deed_text : Own P w K mg base "deed_text" (1) ["deed"] (sp_deed_text))
    (len : ∀ ds w Q E, ((sp_Line_keep K)) ds w Q E → ds.length = 2) (red : ∀ ds w Q E, ((sp_Line_keep K)) ds w Q E → t_Line_keep K  E { nx := fun _ w1 => Q .non w1, rt := Q } (startD ["self", "deed"] ds) w) : FnOk P w K mg base (L2N.CX P w) (5) f fd ["self", "deed"] (lift K ((sp_Line_keep K))) :=
  fn_ok F sc_Line_keep len (fun cdv A outer s H E E' hr => by
    have tk := L2N.takes_of (X := cxOf (L2N.CX P w) P w K mg base ["self", "deed"] "Line.keep" (defScope st_Line_keep) f cdv A outer s H E) (E := E) rfl rfl rfl rfl
    have hp := passes_of (X := cxOf (L2N.CX P w) P w K mg base ["self", "deed"] "Line.keep" (defScope st_Line_keep) f cdv A outer s H E) rfl
    exact (show QSs (cxOf (L2N.CX P w) P w K mg base ["self", "deed"] "Line.keep" (defScope st_Line_keep) f cdv A outer s H E) (fun c d _ H => E c d H) (fun c d _ w => E' c d w) (defBody st_Line_keep) (dSeq (dDrop (dBM "list" appD (dFld (He.ga K "Line") "past" (dVar 0)) (dCons (dMeth (He.ga K "Line") "state" (sp_Line_state K) (fun c d _ w => E' c d w) (dVar 0) dNil) dNil))) (dSeq (dFldS (He.ga K "Line") "ahead" (dVar 0) (dLstO dNil)) (dDrop (dBM "list" appD (dFld (He.ga K "Line") "told" (dVar 0)) (dCons (dCall sp_deed_text (fun c d _ w => E' c d w) (dCons (dVar 1) dNil)) dNil))))) from (qss_cons (qs_expr (qe_bm PySem.F.plainAttrs_list PySem.F.slot_list_append PySem.F.type_list_append mt_append tr_app (qe_fld T.o_Line (qv 0)) (qa_cons (qe_meth0 M_Line_state hr tk (qv 0)) qa_nil))) (qss_cons (qs_fld T.o_Line (qv 0) (qe_lstO qa_nil)) (qss_one (qs_expr (qe_bm PySem.F.plainAttrs_list PySem.F.slot_list_append PySem.F.type_list_append mt_append tr_app (qe_fld T.o_Line (qv 0)) (qa_cons (qe_fn G_deed_text hr tk (qa_cons (qv 1) qa_nil)) qa_nil)))))))) red
theorem sc_Line_doze : FnScope ["self", "mast"] ["self", "mast"] (defScope st_Line_doze) := ⟨rfl, rfl, rfl, by decide +kernel, rfl, by decide +kernel, by decide +kernel⟩
theorem ok_Line_doze {f : Addr} {fd : FuncData} (F : FunD K "doze" "Line.doze" (defArgs st_Line_doze) (defBody st_Line_doze) (defScope st_Line_doze) [] [] f fd) (T : Tx K mg) (G_check_mast : Own P w K mg base "check_mast" (1) ["masts", "mast"] ((sp_check_mast K))) (M_Line_keep : OwnM P w K mg base (He.ga K "Line") "keep" (5) ["self", "deed"] ((sp_Line_keep K)))
    (len : ∀ ds w Q E, ((sp_Line_doze K)) ds w Q E → ds.length = 2) (red : ∀ ds w Q E, ((sp_Line_doze K)) ds w Q E → t_Line_doze K  E { nx := fun _ w1 => Q .non w1, rt := Q } (startD ["self", "mast"] ds) w) : FnOk P w K mg base (L2N.CX P w) (6) f fd ["self", "mast"] (lift K ((sp_Line_doze K))) :=
  fn_ok F sc_Line_doze len (fun cdv A outer s H E E' hr => by
    have tk := L2N.takes_of (X := cxOf (L2N.CX P w) P w K mg base ["self", "mast"] "Line.doze" (defScope st_Line_doze) f cdv A outer s H E) (E := E) rfl rfl rfl rfl
    have hp := passes_of (X := cxOf (L2N.CX P w) P w K mg base ["self", "mast"] "Line.doze" (defScope st_Line_doze) f cdv A outer s H E) rfl
    exact (show QSs (cxOf (L2N.CX P w) P w K mg base ["self", "mast"] "Line.doze" (defScope st_Line_doze) f cdv A outer s H E) (fun c d _ H => E c d H) (fun c d _ w => E' c d w) (defBody st_Line_doze) (dSeq (dDrop (dCall ((sp_check_mast K)) (fun c d _ w => E' c d w) (dCons (dFld (He.ga K "Line") "length" (dVar 0)) (dCons (dVar 1) dNil)))) (dSeq (dIf (dB (dOp (inD false) (dVar 1) (dFld (He.ga K "Line") "sleepers" (dVar 0)))) (dRaise (cls K "Asleep") (fun c d _ w => E' c d w)) dNext) (dSeq (dDrop (dMeth (He.ga K "Line") "keep" (sp_Line_keep K) (fun c d _ w => E' c d w) (dVar 0) (dCons (dTup (dCons (dC (.str "doze")) (dCons (dVar 1) dNil))) dNil))) (dSetK (dC (.bl true)) (dFld (He.ga K "Line") "sleepers" (dVar 0)) (dVar 1))))) from (qss_cons (qs_expr (qe_fn G_check_mast hr tk (qa_cons (qe_fld T.o_Line (qv 0)) (qa_cons (qv 1) qa_nil)))) (qss_cons (qs_if (qt_in hr (qv 1) (qe_fld T.o_Line (qv 0))) (qss_one (qs_raise T.x_Asleep tk)) qss_nil) (qss_cons (qs_expr (qe_meth M_Line_keep hr tk (qv 0) (qa_cons (qe_tup (qa_cons qe_str (qa_cons (qv 1) qa_nil))) qa_nil))) (qss_one (qs_dput hr qe_bl (qe_fld T.o_Line (qv 0)) (qv 1)))))))) red
theorem sc_Line_wake : FnScope ["self", "mast"] ["self", "mast"] (defScope st_Line_wake) := ⟨rfl, rfl, rfl, by decide +kernel, rfl, by decide +kernel, by decide +kernel⟩
theorem ok_Line_wake {f : Addr} {fd : FuncData} (F : FunD K "wake" "Line.wake" (defArgs st_Line_wake) (defBody st_Line_wake) (defScope st_Line_wake) [] [] f fd) (T : Tx K mg) (G_check_mast : Own P w K mg base "check_mast" (1) ["masts", "mast"] ((sp_check_mast K))) (M_Line_keep : OwnM P w K mg base (He.ga K "Line") "keep" (5) ["self", "deed"] ((sp_Line_keep K)))
    (len : ∀ ds w Q E, ((sp_Line_wake K)) ds w Q E → ds.length = 2) (red : ∀ ds w Q E, ((sp_Line_wake K)) ds w Q E → t_Line_wake K  E { nx := fun _ w1 => Q .non w1, rt := Q } (startD ["self", "mast"] ds) w) : FnOk P w K mg base (L2N.CX P w) (6) f fd ["self", "mast"] (lift K ((sp_Line_wake K))) :=
  fn_ok F sc_Line_wake len (fun cdv A outer s H E E' hr => by
    have tk := L2N.takes_of (X := cxOf (L2N.CX P w) P w K mg base ["self", "mast"] "Line.wake" (defScope st_Line_wake) f cdv A outer s H E) (E := E) rfl rfl rfl rfl
    have hp := passes_of (X := cxOf (L2N.CX P w) P w K mg base ["self", "mast"] "Line.wake" (defScope st_Line_wake) f cdv A outer s H E) rfl
    exact (show QSs (cxOf (L2N.CX P w) P w K mg base ["self", "mast"] "Line.wake" (defScope st_Line_wake) f cdv A outer s H E) (fun c d _ H => E c d H) (fun c d _ w => E' c d w) (defBody st_Line_wake) (dSeq (dDrop (dCall ((sp_check_mast K)) (fun c d _ w => E' c d w) (dCons (dFld (He.ga K "Line") "length" (dVar 0)) (dCons (dVar 1) dNil)))) (dSeq (dIf (dB (dOp (inD true) (dVar 1) (dFld (He.ga K "Line") "sleepers" (dVar 0)))) (dRaise (cls K "Awake") (fun c d _ w => E' c d w)) dNext) (dSeq (dDrop (dMeth (He.ga K "Line") "keep" (sp_Line_keep K) (fun c d _ w => E' c d w) (dVar 0) (dCons (dTup (dCons (dC (.str "wake")) (dCons (dVar 1) dNil))) dNil))) (dDrop (dPopK (dFld (He.ga K "Line") "sleepers" (dVar 0)) (dVar 1)))))) from (qss_cons (qs_expr (qe_fn G_check_mast hr tk (qa_cons (qe_fld T.o_Line (qv 0)) (qa_cons (qv 1) qa_nil)))) (qss_cons (qs_if (qt_nin hr (qv 1) (qe_fld T.o_Line (qv 0))) (qss_one (qs_raise T.x_Awake tk)) qss_nil) (qss_cons (qs_expr (qe_meth M_Line_keep hr tk (qv 0) (qa_cons (qe_tup (qa_cons qe_str (qa_cons (qv 1) qa_nil))) qa_nil))) (qss_one (qs_expr (qe_dpop hr (qe_fld T.o_Line (qv 0)) (qv 1))))))))) red
theorem sc_Line_fog : FnScope ["self", "mast"] ["self", "mast"] (defScope st_Line_fog) := ⟨rfl, rfl, rfl, by decide +kernel, rfl, by decide +kernel, by decide +kernel⟩
theorem ok_Line_fog {f : Addr} {fd : FuncData} (F : FunD K "fog" "Line.fog" (defArgs st_Line_fog) (defBody st_Line_fog) (defScope st_Line_fog) [] [] f fd) (T : Tx K mg) (G_check_mast : Own P w K mg base "check_mast" (1) ["masts", "mast"] ((sp_check_mast K))) (M_Line_keep : OwnM P w K mg base (He.ga K "Line") "keep" (5) ["self", "deed"] ((sp_Line_keep K)))
    (len : ∀ ds w Q E, ((sp_Line_fog K)) ds w Q E → ds.length = 2) (red : ∀ ds w Q E, ((sp_Line_fog K)) ds w Q E → t_Line_fog K  E { nx := fun _ w1 => Q .non w1, rt := Q } (startD ["self", "mast"] ds) w) : FnOk P w K mg base (L2N.CX P w) (6) f fd ["self", "mast"] (lift K ((sp_Line_fog K))) :=
  fn_ok F sc_Line_fog len (fun cdv A outer s H E E' hr => by
    have tk := L2N.takes_of (X := cxOf (L2N.CX P w) P w K mg base ["self", "mast"] "Line.fog" (defScope st_Line_fog) f cdv A outer s H E) (E := E) rfl rfl rfl rfl
    have hp := passes_of (X := cxOf (L2N.CX P w) P w K mg base ["self", "mast"] "Line.fog" (defScope st_Line_fog) f cdv A outer s H E) rfl
    exact (show QSs (cxOf (L2N.CX P w) P w K mg base ["self", "mast"] "Line.fog" (defScope st_Line_fog) f cdv A outer s H E) (fun c d _ H => E c d H) (fun c d _ w => E' c d w) (defBody st_Line_fog) (dSeq (dDrop (dCall ((sp_check_mast K)) (fun c d _ w => E' c d w) (dCons (dOp subD (dFld (He.ga K "Line") "length" (dVar 0)) (dC (.int 1))) (dCons (dVar 1) dNil)))) (dSeq (dIf (dB (dOp (inD false) (dVar 1) (dFld (He.ga K "Line") "clouds" (dVar 0)))) (dRaise (cls K "Fogged") (fun c d _ w => E' c d w)) dNext) (dSeq (dDrop (dMeth (He.ga K "Line") "keep" (sp_Line_keep K) (fun c d _ w => E' c d w) (dVar 0) (dCons (dTup (dCons (dC (.str "fog")) (dCons (dVar 1) dNil))) dNil))) (dSetK (dC (.bl true)) (dFld (He.ga K "Line") "clouds" (dVar 0)) (dVar 1))))) from (qss_cons (qs_expr (qe_fn G_check_mast hr tk (qa_cons (qe_sub (qe_fld T.o_Line (qv 0)) qe_int) (qa_cons (qv 1) qa_nil)))) (qss_cons (qs_if (qt_in hr (qv 1) (qe_fld T.o_Line (qv 0))) (qss_one (qs_raise T.x_Fogged tk)) qss_nil) (qss_cons (qs_expr (qe_meth M_Line_keep hr tk (qv 0) (qa_cons (qe_tup (qa_cons qe_str (qa_cons (qv 1) qa_nil))) qa_nil))) (qss_one (qs_dput hr qe_bl (qe_fld T.o_Line (qv 0)) (qv 1)))))))) red
theorem sc_Line_lift : FnScope ["self", "mast"] ["self", "mast"] (defScope st_Line_lift) := ⟨rfl, rfl, rfl, by decide +kernel, rfl, by decide +kernel, by decide +kernel⟩
theorem ok_Line_lift {f : Addr} {fd : FuncData} (F : FunD K "lift" "Line.lift" (defArgs st_Line_lift) (defBody st_Line_lift) (defScope st_Line_lift) [] [] f fd) (T : Tx K mg) (G_check_mast : Own P w K mg base "check_mast" (1) ["masts", "mast"] ((sp_check_mast K))) (M_Line_keep : OwnM P w K mg base (He.ga K "Line") "keep" (5) ["self", "deed"] ((sp_Line_keep K)))
    (len : ∀ ds w Q E, ((sp_Line_lift K)) ds w Q E → ds.length = 2) (red : ∀ ds w Q E, ((sp_Line_lift K)) ds w Q E → t_Line_lift K  E { nx := fun _ w1 => Q .non w1, rt := Q } (startD ["self", "mast"] ds) w) : FnOk P w K mg base (L2N.CX P w) (6) f fd ["self", "mast"] (lift K ((sp_Line_lift K))) :=
  fn_ok F sc_Line_lift len (fun cdv A outer s H E E' hr => by
    have tk := L2N.takes_of (X := cxOf (L2N.CX P w) P w K mg base ["self", "mast"] "Line.lift" (defScope st_Line_lift) f cdv A outer s H E) (E := E) rfl rfl rfl rfl
    have hp := passes_of (X := cxOf (L2N.CX P w) P w K mg base ["self", "mast"] "Line.lift" (defScope st_Line_lift) f cdv A outer s H E) rfl
    exact (show QSs (cxOf (L2N.CX P w) P w K mg base ["self", "mast"] "Line.lift" (defScope st_Line_lift) f cdv A outer s H E) (fun c d _ H => E c d H) (fun c d _ w => E' c d w) (defBody st_Line_lift) (dSeq (dDrop (dCall ((sp_check_mast K)) (fun c d _ w => E' c d w) (dCons (dOp subD (dFld (He.ga K "Line") "length" (dVar 0)) (dC (.int 1))) (dCons (dVar 1) dNil)))) (dSeq (dIf (dB (dOp (inD true) (dVar 1) (dFld (He.ga K "Line") "clouds" (dVar 0)))) (dRaise (cls K "Clear") (fun c d _ w => E' c d w)) dNext) (dSeq (dDrop (dMeth (He.ga K "Line") "keep" (sp_Line_keep K) (fun c d _ w => E' c d w) (dVar 0) (dCons (dTup (dCons (dC (.str "lift")) (dCons (dVar 1) dNil))) dNil))) (dDrop (dPopK (dFld (He.ga K "Line") "clouds" (dVar 0)) (dVar 1)))))) from (qss_cons (qs_expr (qe_fn G_check_mast hr tk (qa_cons (qe_sub (qe_fld T.o_Line (qv 0)) qe_int) (qa_cons (qv 1) qa_nil)))) (qss_cons (qs_if (qt_nin hr (qv 1) (qe_fld T.o_Line (qv 0))) (qss_one (qs_raise T.x_Clear tk)) qss_nil) (qss_cons (qs_expr (qe_meth M_Line_keep hr tk (qv 0) (qa_cons (qe_tup (qa_cons qe_str (qa_cons (qv 1) qa_nil))) qa_nil))) (qss_one (qs_expr (qe_dpop hr (qe_fld T.o_Line (qv 0)) (qv 1))))))))) red
theorem sc_Line_asleep : FnScope ["self"] ["self"] (defScope st_Line_asleep) := ⟨rfl, rfl, rfl, by decide +kernel, rfl, by decide +kernel, by decide +kernel⟩
theorem ok_Line_asleep {f : Addr} {fd : FuncData} (F : FunD K "asleep" "Line.asleep" (defArgs st_Line_asleep) (defBody st_Line_asleep) (defScope st_Line_asleep) [] [] f fd) (T : Tx K mg)
    (len : ∀ ds w Q E, ((sp_Line_asleep K)) ds w Q E → ds.length = 1) (red : ∀ ds w Q E, ((sp_Line_asleep K)) ds w Q E → t_Line_asleep K  E { nx := fun _ w1 => Q .non w1, rt := Q } (startD ["self"] ds) w) : FnOk P w K mg base (L2N.CX P w) (1) f fd ["self"] (lift K ((sp_Line_asleep K))) :=
  fn_ok F sc_Line_asleep len (fun cdv A outer s H E E' hr => by
    have tk := L2N.takes_of (X := cxOf (L2N.CX P w) P w K mg base ["self"] "Line.asleep" (defScope st_Line_asleep) f cdv A outer s H E) (E := E) rfl rfl rfl rfl
    have hp := passes_of (X := cxOf (L2N.CX P w) P w K mg base ["self"] "Line.asleep" (defScope st_Line_asleep) f cdv A outer s H E) rfl
    exact (show QSs (cxOf (L2N.CX P w) P w K mg base ["self"] "Line.asleep" (defScope st_Line_asleep) f cdv A outer s H E) (fun c d _ H => E c d H) (fun c d _ w => E' c d w) (defBody st_Line_asleep) (dRet (dCB sortNO (dCons (dFld (He.ga K "Line") "sleepers" (dVar 0)) dNil))) from (qss_one (qs_ret (qe_callB (call_sortedDI rfl) tr_sortNO T.f_sorted (by decide +kernel) (qa_cons (qe_fld T.o_Line (qv 0)) qa_nil)))))) red
theorem sc_Line_fogs : FnScope ["self"] ["self"] (defScope st_Line_fogs) := ⟨rfl, rfl, rfl, by decide +kernel, rfl, by decide +kernel, by decide +kernel⟩
theorem ok_Line_fogs {f : Addr} {fd : FuncData} (F : FunD K "fogs" "Line.fogs" (defArgs st_Line_fogs) (defBody st_Line_fogs) (defScope st_Line_fogs) [] [] f fd) (T : Tx K mg)
    (len : ∀ ds w Q E, ((sp_Line_fogs K)) ds w Q E → ds.length = 1) (red : ∀ ds w Q E, ((sp_Line_fogs K)) ds w Q E → t_Line_fogs K  E { nx := fun _ w1 => Q .non w1, rt := Q } (startD ["self"] ds) w) : FnOk P w K mg base (L2N.CX P w) (1) f fd ["self"] (lift K ((sp_Line_fogs K))) :=
  fn_ok F sc_Line_fogs len (fun cdv A outer s H E E' hr => by
    have tk := L2N.takes_of (X := cxOf (L2N.CX P w) P w K mg base ["self"] "Line.fogs" (defScope st_Line_fogs) f cdv A outer s H E) (E := E) rfl rfl rfl rfl
    have hp := passes_of (X := cxOf (L2N.CX P w) P w K mg base ["self"] "Line.fogs" (defScope st_Line_fogs) f cdv A outer s H E) rfl
    exact (show QSs (cxOf (L2N.CX P w) P w K mg base ["self"] "Line.fogs" (defScope st_Line_fogs) f cdv A outer s H E) (fun c d _ H => E c d H) (fun c d _ w => E' c d w) (defBody st_Line_fogs) (dRet (dCB sortNO (dCons (dFld (He.ga K "Line") "clouds" (dVar 0)) dNil))) from (qss_one (qs_ret (qe_callB (call_sortedDI rfl) tr_sortNO T.f_sorted (by decide +kernel) (qa_cons (qe_fld T.o_Line (qv 0)) qa_nil)))))) red
end
section Facts
variable {P : Program} {w : World} {K : PySem.W.Frag} {h : Heap} {mg : Str → Option Value} (X : K.In h) (G : h.Ns mainGlobals mg) (c : He.SaysD fa fn K) (hex : (ex.all fun e => e.ok K) = true)
include X G c hex
theorem f_T : Tx K mg := by
  have T : Tx K mg := ⟨He.int_ok X G (c.fact 0 (f := .int "FEWEST" 2) rfl), He.int_ok X G (c.fact 1 (f := .int "MOST" 12) rfl), He.int_ok X G (c.fact 2 (f := .int "REST" 0) rfl), gt_of (He.glo_ok X G (c.fact 3 (f := .glo "WAYS") rfl)) (ex_at hex 3 (e := .tup "WAYS" [.str "up", .str "down"])) (fun P => .cons (.str _) (.cons (.str _) (.nil))), He.free_ok X G (c.fact 4 (f := .free "all") rfl), He.free_ok X G (c.fact 5 (f := .free "bool") rfl), He.free_ok X G (c.fact 6 (f := .free "dict") rfl), He.free_ok X G (c.fact 7 (f := .free "int") rfl), He.free_ok X G (c.fact 8 (f := .free "isinstance") rfl), He.free_ok X G (c.fact 9 (f := .free "len") rfl), He.free_ok X G (c.fact 10 (f := .free "list") rfl), He.free_ok X G (c.fact 11 (f := .free "max") rfl), He.free_ok X G (c.fact 12 (f := .free "min") rfl), He.free_ok X G (c.fact 13 (f := .free "range") rfl), He.free_ok X G (c.fact 14 (f := .free "sorted") rfl), He.free_ok X G (c.fact 15 (f := .free "str") rfl), He.free_ok X G (c.fact 16 (f := .free "tuple") rfl), ⟨He.cls_ok (c.fact 17 (f := .cls "Books") rfl), fun f hf => by
      simp only [List.mem_cons, List.not_mem_nil, or_false] at hf
      rcases hf with rfl | rfl | rfl
      · exact He.noat_ok (c.fact 18 (f := .noat "Books" "size") rfl)
      · exact He.noat_ok (c.fact 19 (f := .noat "Books" "written") rfl)
      · exact He.noat_ok (c.fact 20 (f := .noat "Books" "gone") rfl)⟩, ⟨He.cls_ok (c.fact 21 (f := .cls "Line") rfl), fun f hf => by
      simp only [List.mem_cons, List.not_mem_nil, or_false] at hf
      rcases hf with rfl | rfl | rfl | rfl | rfl | rfl | rfl | rfl | rfl | rfl | rfl
      · exact He.noat_ok (c.fact 22 (f := .noat "Line" "length") rfl)
      · exact He.noat_ok (c.fact 23 (f := .noat "Line" "going") rfl)
      · exact He.noat_ok (c.fact 24 (f := .noat "Line" "shown") rfl)
      · exact He.noat_ok (c.fact 25 (f := .noat "Line" "queues") rfl)
      · exact He.noat_ok (c.fact 26 (f := .noat "Line" "sleepers") rfl)
      · exact He.noat_ok (c.fact 27 (f := .noat "Line" "clouds") rfl)
      · exact He.noat_ok (c.fact 28 (f := .noat "Line" "books") rfl)
      · exact He.noat_ok (c.fact 29 (f := .noat "Line" "phrases") rfl)
      · exact He.noat_ok (c.fact 30 (f := .noat "Line" "told") rfl)
      · exact He.noat_ok (c.fact 31 (f := .noat "Line" "past") rfl)
      · exact He.noat_ok (c.fact 32 (f := .noat "Line" "ahead") rfl)⟩, ⟨He.cls_ok (c.fact 33 (f := .cls "Phrasebook") rfl), fun f hf => by
      simp only [List.mem_cons, List.not_mem_nil, or_false] at hf
      rcases hf with rfl | rfl
      · exact He.noat_ok (c.fact 34 (f := .noat "Phrasebook" "by_place") rfl)
      · exact He.noat_ok (c.fact 35 (f := .noat "Phrasebook" "by_word") rfl)⟩, ⟨He.glo_ok X G (c.fact 36 (f := .glo "Asleep") rfl), c.fact 37 (f := .exc "Asleep") rfl⟩, ⟨He.glo_ok X G (c.fact 38 (f := .glo "Awake") rfl), c.fact 39 (f := .exc "Awake") rfl⟩, ⟨He.glo_ok X G (c.fact 40 (f := .glo "BadCount") rfl), c.fact 41 (f := .exc "BadCount") rfl⟩, ⟨He.glo_ok X G (c.fact 42 (f := .glo "BadPlace") rfl), c.fact 43 (f := .exc "BadPlace") rfl⟩, ⟨He.glo_ok X G (c.fact 44 (f := .glo "BadSign") rfl), c.fact 45 (f := .exc "BadSign") rfl⟩, ⟨He.glo_ok X G (c.fact 46 (f := .glo "BadSlip") rfl), c.fact 47 (f := .exc "BadSlip") rfl⟩, ⟨He.glo_ok X G (c.fact 48 (f := .glo "BadWay") rfl), c.fact 49 (f := .exc "BadWay") rfl⟩, ⟨He.glo_ok X G (c.fact 50 (f := .glo "BadWord") rfl), c.fact 51 (f := .exc "BadWord") rfl⟩, ⟨He.glo_ok X G (c.fact 52 (f := .glo "Busy") rfl), c.fact 53 (f := .exc "Busy") rfl⟩, ⟨He.glo_ok X G (c.fact 54 (f := .glo "Clear") rfl), c.fact 55 (f := .exc "Clear") rfl⟩, ⟨He.glo_ok X G (c.fact 56 (f := .glo "Fogged") rfl), c.fact 57 (f := .exc "Fogged") rfl⟩, ⟨He.glo_ok X G (c.fact 58 (f := .glo "Full") rfl), c.fact 59 (f := .exc "Full") rfl⟩, ⟨He.glo_ok X G (c.fact 60 (f := .glo "Known") rfl), c.fact 61 (f := .exc "Known") rfl⟩, ⟨He.glo_ok X G (c.fact 62 (f := .glo "Legible") rfl), c.fact 63 (f := .exc "Legible") rfl⟩, ⟨He.glo_ok X G (c.fact 64 (f := .glo "Lost") rfl), c.fact 65 (f := .exc "Lost") rfl⟩, ⟨He.glo_ok X G (c.fact 66 (f := .glo "MastError") rfl), c.fact 67 (f := .exc "MastError") rfl⟩, ⟨He.glo_ok X G (c.fact 68 (f := .glo "NoBook") rfl), c.fact 69 (f := .exc "NoBook") rfl⟩, ⟨He.glo_ok X G (c.fact 70 (f := .glo "NoMast") rfl), c.fact 71 (f := .exc "NoMast") rfl⟩, ⟨He.glo_ok X G (c.fact 72 (f := .glo "NoRow") rfl), c.fact 73 (f := .exc "NoRow") rfl⟩, ⟨He.glo_ok X G (c.fact 74 (f := .glo "NoWord") rfl), c.fact 75 (f := .exc "NoWord") rfl⟩, ⟨He.glo_ok X G (c.fact 76 (f := .glo "NotRaising") rfl), c.fact 77 (f := .exc "NotRaising") rfl⟩, ⟨He.glo_ok X G (c.fact 78 (f := .glo "NotReady") rfl), c.fact 79 (f := .exc "NotReady") rfl⟩, ⟨He.glo_ok X G (c.fact 80 (f := .glo "NothingLeft") rfl), c.fact 81 (f := .exc "NothingLeft") rfl⟩, ⟨He.glo_ok X G (c.fact 82 (f := .glo "NothingWaits") rfl), c.fact 83 (f := .exc "NothingWaits") rfl⟩, ⟨He.glo_ok X G (c.fact 84 (f := .glo "Taken") rfl), c.fact 85 (f := .exc "Taken") rfl⟩⟩
  exact T
theorem f_hX : X23 K := by
  have hX : X23 K := ⟨ex_exCs (ex_at hex 0 (e := .exCs ["BadWay", "BadSign", "Full", "NothingWaits", "NoMast", "NotReady", "NotRaising", "BadSlip", "Asleep", "Awake", "Fogged", "Clear", "Busy", "NoRow", "NoBook", "Lost", "Legible", "NothingLeft", "BadPlace", "BadWord", "Taken", "Known", "NoWord"])), ex_kits (ex_at hex 1 (e := .kits ["BadWay", "BadSign", "Full", "NothingWaits", "NoMast", "NotReady", "NotRaising", "BadSlip", "Asleep", "Awake", "Fogged", "Clear", "Busy", "NoRow", "NoBook", "Lost", "Legible", "NothingLeft", "BadPlace", "BadWord", "Taken", "Known", "NoWord"] ["BadWay", "BadSign", "Full", "NothingWaits", "NoMast", "NotReady", "NotRaising", "BadSlip", "Asleep", "Awake", "Fogged", "Clear", "Busy", "NoRow", "NoBook", "Lost", "Legible", "NothingLeft", "BadPlace", "BadWord", "Taken", "Known", "NoWord"])), ex_exms (ex_at hex 2 (e := .exms ["BadWay", "BadSign", "Full", "NothingWaits", "NoMast", "NotReady", "NotRaising", "BadSlip", "Asleep", "Awake", "Fogged", "Clear", "Busy", "NoRow", "NoBook", "Lost", "Legible", "NothingLeft", "BadPlace", "BadWord", "Taken", "Known", "NoWord"] "MastError"))⟩
  exact hX
variable (base : Heap)
theorem f_G_check_masts : Own P w K mg base "check_masts" 1 ["masts"] (sp_check_masts K) := by
  obtain ⟨fd0, F0⟩ := c.def_ 0 (d := d0) rfl
  have T := f_T X G c hex
  have G_check_masts : Own P w K mg base "check_masts" 1 ["masts"] (sp_check_masts K) := ⟨_, _, ok_check_masts F0 T  (by intro ds w Q E h; unfold sp_check_masts at h; repeat' (first | (obtain ⟨rfl, h⟩ := h; rfl) | obtain ⟨_, h⟩ := h)) (red_check_masts), He.glo_ok X G (c.fact 86 (f := .glo "check_masts") rfl), F0.kp, FunD.bindsN F0 fun _ _ _ _ _ _ us hl => match us, hl with | [_], _ => rfl⟩
  exact G_check_masts
theorem f_G_check_mast : Own P w K mg base "check_mast" 1 ["masts", "mast"] (sp_check_mast K) := by
  obtain ⟨fd1, F1⟩ := c.def_ 1 (d := d1) rfl
  have T := f_T X G c hex
  have G_check_mast : Own P w K mg base "check_mast" 1 ["masts", "mast"] (sp_check_mast K) := ⟨_, _, ok_check_mast F1 T  (by intro ds w Q E h; unfold sp_check_mast at h; repeat' (first | (obtain ⟨rfl, h⟩ := h; rfl) | obtain ⟨_, h⟩ := h)) (red_check_mast), He.glo_ok X G (c.fact 87 (f := .glo "check_mast") rfl), F1.kp, FunD.bindsN F1 fun _ _ _ _ _ _ us hl => match us, hl with | [_, _], _ => rfl⟩
  exact G_check_mast
theorem f_G_deed_text : Own P w K mg base "deed_text" 1 ["deed"] (sp_deed_text) := by
  obtain ⟨fd2, F2⟩ := c.def_ 2 (d := d2) rfl
  have T := f_T X G c hex
  have G_deed_text : Own P w K mg base "deed_text" 1 ["deed"] (sp_deed_text) := ⟨_, _, ok_deed_text F2 T  (by intro ds w Q E h; unfold sp_deed_text at h; repeat' (first | (obtain ⟨rfl, h⟩ := h; rfl) | obtain ⟨_, h⟩ := h)) (red_deed_text), He.glo_ok X G (c.fact 88 (f := .glo "deed_text") rfl), F2.kp, FunD.bindsN F2 fun _ _ _ _ _ _ us hl => match us, hl with | [_], _ => rfl⟩
  exact G_deed_text
theorem f_G__law_cell : Own P w K mg base "_law_cell" 1 ["_law_script", "_law_at"] (sp__law_cell) := by
  obtain ⟨fd3, F3⟩ := c.def_ 3 (d := d3) rfl
  have T := f_T X G c hex
  have G__law_cell : Own P w K mg base "_law_cell" 1 ["_law_script", "_law_at"] (sp__law_cell) := ⟨_, _, ok__law_cell F3 T  (by intro ds w Q E h; unfold sp__law_cell at h; repeat' (first | (obtain ⟨rfl, h⟩ := h; rfl) | obtain ⟨_, h⟩ := h)) (red__law_cell), He.glo_ok X G (c.fact 89 (f := .glo "_law_cell") rfl), F3.kp, FunD.bindsN F3 fun _ _ _ _ _ _ us hl => match us, hl with | [_, _], _ => rfl⟩
  exact G__law_cell
theorem f_G__law_row : Own P w K mg base "_law_row" 1 ["_law_cell_here", "_law_many", "_law_size"] (sp__law_row) := by
  obtain ⟨fd4, F4⟩ := c.def_ 4 (d := d4) rfl
  have T := f_T X G c hex
  have G__law_row : Own P w K mg base "_law_row" 1 ["_law_cell_here", "_law_many", "_law_size"] (sp__law_row) := ⟨_, _, ok__law_row F4 T  (by intro ds w Q E h; unfold sp__law_row at h; repeat' (first | (obtain ⟨rfl, h⟩ := h; rfl) | obtain ⟨_, h⟩ := h)) (red__law_row), He.glo_ok X G (c.fact 90 (f := .glo "_law_row") rfl), F4.kp, FunD.bindsN F4 fun _ _ _ _ _ _ us hl => match us, hl with | [_, _, _], _ => rfl⟩
  exact G__law_row
theorem f_G__law_sky_deed : Own P w K mg base "_law_sky_deed" 1 ["_law_state", "_law_deed"] (sp__law_sky_deed) := by
  obtain ⟨fd6, F6⟩ := c.def_ 6 (d := d6) rfl
  have T := f_T X G c hex
  have G__law_sky_deed : Own P w K mg base "_law_sky_deed" 1 ["_law_state", "_law_deed"] (sp__law_sky_deed) := ⟨_, _, ok__law_sky_deed F6 T  (by intro ds w Q E h; unfold sp__law_sky_deed at h; repeat' (first | (obtain ⟨rfl, h⟩ := h; rfl) | obtain ⟨_, h⟩ := h)) (red__law_sky_deed), He.glo_ok X G (c.fact 92 (f := .glo "_law_sky_deed") rfl), F6.kp, FunD.bindsN F6 fun _ _ _ _ _ _ us hl => match us, hl with | [_, _], _ => rfl⟩
  exact G__law_sky_deed
theorem f_K__law_kind : OwnK P w K mg base "_law_kind" 1 ["_law_e"] (sp__law_kind K) := by
  obtain ⟨fd7, F7⟩ := c.def_ 7 (d := d7) rfl
  have T := f_T X G c hex
  have hX := f_hX X G c hex
  have K__law_kind : OwnK P w K mg base "_law_kind" 1 ["_law_e"] (sp__law_kind K) := ⟨⟨_, _, ok__law_kind F7 T (red__law_kind hX), He.glo_ok X G (c.fact 93 (f := .glo "_law_kind") rfl), F7.kp, FunD.bindsN F7 fun _ _ _ _ _ _ us hl => match us, hl with | [_], _ => rfl⟩, rfl⟩
  exact K__law_kind
theorem f_C_Books : OwnC P w K mg base "Books" 1 ["self", "masts"] (sp_Books_init K) := by
  obtain ⟨fd11, F11⟩ := c.def_ 11 (d := d11) rfl
  have T := f_T X G c hex
  have C_Books : OwnC P w K mg base "Books" 1 ["self", "masts"] (sp_Books_init K) := ⟨⟨_, _, ok_Books_init F11 T  (by intro ds w Q E h; unfold sp_Books_init at h; repeat' (first | (obtain ⟨rfl, h⟩ := h; rfl) | obtain ⟨_, h⟩ := h)) (red_Books_init), He.mkr_ok (c.fact 97 (f := .mkr "Books") rfl), FunD.bindsN F11 fun _ _ _ _ _ _ us hl => match us, hl with | [_, _], _ => rfl⟩, He.glo_ok X G (c.fact 110 (f := .glo "Books") rfl)⟩
  exact C_Books
theorem f_C_Phrasebook : OwnC P w K mg base "Phrasebook" 1 ["self"] (sp_Phrasebook_init K) := by
  obtain ⟨fd13, F13⟩ := c.def_ 13 (d := d13) rfl
  have T := f_T X G c hex
  have C_Phrasebook : OwnC P w K mg base "Phrasebook" 1 ["self"] (sp_Phrasebook_init K) := ⟨⟨_, _, ok_Phrasebook_init F13 T  (by intro ds w Q E h; unfold sp_Phrasebook_init at h; repeat' (first | (obtain ⟨rfl, h⟩ := h; rfl) | obtain ⟨_, h⟩ := h)) (red_Phrasebook_init), He.mkr_ok (c.fact 99 (f := .mkr "Phrasebook") rfl), FunD.bindsN F13 fun _ _ _ _ _ _ us hl => match us, hl with | [_], _ => rfl⟩, He.glo_ok X G (c.fact 114 (f := .glo "Phrasebook") rfl)⟩
  exact C_Phrasebook
theorem f_M_Line_asleep : OwnM P w K mg base (He.ga K "Line") "asleep" 1 ["self"] (sp_Line_asleep K) := by
  obtain ⟨fd22, F22⟩ := c.def_ 22 (d := d22) rfl
  have T := f_T X G c hex
  have M_Line_asleep : OwnM P w K mg base (He.ga K "Line") "asleep" 1 ["self"] (sp_Line_asleep K) := ⟨⟨_, _, ok_Line_asleep F22 T  (by intro ds w Q E h; unfold sp_Line_asleep at h; repeat' (first | (obtain ⟨rfl, h⟩ := h; rfl) | obtain ⟨_, h⟩ := h)) (red_Line_asleep), He.meth_ok (c.fact 108 (f := .meth "Line" "asleep") rfl), FunD.bindsN F22 fun _ _ _ _ _ _ us hl => match us, hl with | [_], _ => rfl⟩, He.cls_ok (c.fact 113 (f := .cls "Line") rfl)⟩
  exact M_Line_asleep
theorem f_M_Line_fogs : OwnM P w K mg base (He.ga K "Line") "fogs" 1 ["self"] (sp_Line_fogs K) := by
  obtain ⟨fd23, F23⟩ := c.def_ 23 (d := d23) rfl
  have T := f_T X G c hex
  have M_Line_fogs : OwnM P w K mg base (He.ga K "Line") "fogs" 1 ["self"] (sp_Line_fogs K) := ⟨⟨_, _, ok_Line_fogs F23 T  (by intro ds w Q E h; unfold sp_Line_fogs at h; repeat' (first | (obtain ⟨rfl, h⟩ := h; rfl) | obtain ⟨_, h⟩ := h)) (red_Line_fogs), He.meth_ok (c.fact 109 (f := .meth "Line" "fogs") rfl), FunD.bindsN F23 fun _ _ _ _ _ _ us hl => match us, hl with | [_], _ => rfl⟩, He.cls_ok (c.fact 113 (f := .cls "Line") rfl)⟩
  exact M_Line_fogs
theorem f_M_Books_copied : OwnM P w K mg base (He.ga K "Books") "copied" 3 ["self"] (sp_Books_copied K) := by
  obtain ⟨fd12, F12⟩ := c.def_ 12 (d := d12) rfl
  have T := f_T X G c hex
  have C_Books := f_C_Books X G c hex base (P := P) (w := w)
  have M_Books_copied : OwnM P w K mg base (He.ga K "Books") "copied" 3 ["self"] (sp_Books_copied K) := ⟨⟨_, _, ok_Books_copied F12 T C_Books (by intro ds w Q E h; unfold sp_Books_copied at h; repeat' (first | (obtain ⟨rfl, h⟩ := h; rfl) | obtain ⟨_, h⟩ := h)) (red_Books_copied), He.meth_ok (c.fact 98 (f := .meth "Books" "copied") rfl), FunD.bindsN F12 fun _ _ _ _ _ _ us hl => match us, hl with | [_], _ => rfl⟩, He.cls_ok (c.fact 111 (f := .cls "Books") rfl)⟩
  exact M_Books_copied
theorem f_M_Phrasebook_copied : OwnM P w K mg base (He.ga K "Phrasebook") "copied" 3 ["self"] (sp_Phrasebook_copied K) := by
  obtain ⟨fd14, F14⟩ := c.def_ 14 (d := d14) rfl
  have T := f_T X G c hex
  have C_Phrasebook := f_C_Phrasebook X G c hex base (P := P) (w := w)
  have M_Phrasebook_copied : OwnM P w K mg base (He.ga K "Phrasebook") "copied" 3 ["self"] (sp_Phrasebook_copied K) := ⟨⟨_, _, ok_Phrasebook_copied F14 T C_Phrasebook (by intro ds w Q E h; unfold sp_Phrasebook_copied at h; repeat' (first | (obtain ⟨rfl, h⟩ := h; rfl) | obtain ⟨_, h⟩ := h)) (red_Phrasebook_copied), He.meth_ok (c.fact 100 (f := .meth "Phrasebook" "copied") rfl), FunD.bindsN F14 fun _ _ _ _ _ _ us hl => match us, hl with | [_], _ => rfl⟩, He.cls_ok (c.fact 115 (f := .cls "Phrasebook") rfl)⟩
  exact M_Phrasebook_copied
theorem f_C_Line : OwnC P w K mg base "Line" 3 ["self", "masts"] (sp_Line_init K) := by
  obtain ⟨fd15, F15⟩ := c.def_ 15 (d := d15) rfl
  have T := f_T X G c hex
  have G_check_masts := f_G_check_masts X G c hex base (P := P) (w := w)
  have C_Books := f_C_Books X G c hex base (P := P) (w := w)
  have C_Phrasebook := f_C_Phrasebook X G c hex base (P := P) (w := w)
  have C_Line : OwnC P w K mg base "Line" 3 ["self", "masts"] (sp_Line_init K) := ⟨⟨_, _, ok_Line_init F15 T G_check_masts C_Books C_Phrasebook (by intro ds w Q E h; unfold sp_Line_init at h; repeat' (first | (obtain ⟨rfl, h⟩ := h; rfl) | obtain ⟨_, h⟩ := h)) (red_Line_init), He.mkr_ok (c.fact 101 (f := .mkr "Line") rfl), FunD.bindsN F15 fun _ _ _ _ _ _ us hl => match us, hl with | [_, _], _ => rfl⟩, He.glo_ok X G (c.fact 112 (f := .glo "Line") rfl)⟩
  exact C_Line
theorem f_A_like : ∀ n, Own P w K mg base "_law_like" (n + 1) ["_law_found", "_law_due"] (sp_like n) := by
  obtain ⟨fd5, F5⟩ := c.def_ 5 (d := d5) rfl
  have T := f_T X G c hex
  have B__law_like : Binds K fd5 ["_law_found", "_law_due"] [] := FunD.bindsN F5 fun _ _ _ _ _ _ us hl => match us, hl with | [_, _], _ => rfl
  have A_like : ∀ n, Own P w K mg base "_law_like" (n + 1) ["_law_found", "_law_due"] (sp_like n) := by
    intro n
    induction n with
    | zero => exact ⟨_, _, F5.ok sc__law_like (fun vs H Q E h => (like0 h).elim) (fun _ _ _ _ H vs Q E _ h => (like0 h).elim), He.glo_ok X G (c.fact 91 (f := .glo "_law_like") rfl), F5.kp, B__law_like⟩
    | succ n ih => exact ⟨_, _, ok__law_like n F5 T ih (fun ds w Q E ⟨_, _, e, _⟩ => by rw [e]; rfl) (red__law_like n), He.glo_ok X G (c.fact 91 (f := .glo "_law_like") rfl), F5.kp, B__law_like⟩
  exact A_like
theorem f_M_Line_state : OwnM P w K mg base (He.ga K "Line") "state" 4 ["self"] (sp_Line_state K) := by
  obtain ⟨fd16, F16⟩ := c.def_ 16 (d := d16) rfl
  have T := f_T X G c hex
  have M_Books_copied := f_M_Books_copied X G c hex base (P := P) (w := w)
  have M_Phrasebook_copied := f_M_Phrasebook_copied X G c hex base (P := P) (w := w)
  have M_Line_state : OwnM P w K mg base (He.ga K "Line") "state" 4 ["self"] (sp_Line_state K) := ⟨⟨_, _, ok_Line_state F16 T M_Phrasebook_copied M_Books_copied (by intro ds w Q E h; unfold sp_Line_state at h; repeat' (first | (obtain ⟨rfl, h⟩ := h; rfl) | obtain ⟨_, h⟩ := h)) (red_Line_state), He.meth_ok (c.fact 102 (f := .meth "Line" "state") rfl), FunD.bindsN F16 fun _ _ _ _ _ _ us hl => match us, hl with | [_], _ => rfl⟩, He.cls_ok (c.fact 113 (f := .cls "Line") rfl)⟩
  exact M_Line_state
theorem f_M_Line_keep : OwnM P w K mg base (He.ga K "Line") "keep" 5 ["self", "deed"] (sp_Line_keep K) := by
  obtain ⟨fd17, F17⟩ := c.def_ 17 (d := d17) rfl
  have T := f_T X G c hex
  have G_deed_text := f_G_deed_text X G c hex base (P := P) (w := w)
  have M_Line_state := f_M_Line_state X G c hex base (P := P) (w := w)
  have M_Line_keep : OwnM P w K mg base (He.ga K "Line") "keep" 5 ["self", "deed"] (sp_Line_keep K) := ⟨⟨_, _, ok_Line_keep F17 T M_Line_state G_deed_text (by intro ds w Q E h; unfold sp_Line_keep at h; repeat' (first | (obtain ⟨rfl, h⟩ := h; rfl) | obtain ⟨_, h⟩ := h)) (red_Line_keep), He.meth_ok (c.fact 103 (f := .meth "Line" "keep") rfl), FunD.bindsN F17 fun _ _ _ _ _ _ us hl => match us, hl with | [_, _], _ => rfl⟩, He.cls_ok (c.fact 113 (f := .cls "Line") rfl)⟩
  exact M_Line_keep
theorem f_M_Line_doze : OwnM P w K mg base (He.ga K "Line") "doze" 6 ["self", "mast"] (sp_Line_doze K) := by
  obtain ⟨fd18, F18⟩ := c.def_ 18 (d := d18) rfl
  have T := f_T X G c hex
  have G_check_mast := f_G_check_mast X G c hex base (P := P) (w := w)
  have M_Line_keep := f_M_Line_keep X G c hex base (P := P) (w := w)
  have M_Line_doze : OwnM P w K mg base (He.ga K "Line") "doze" 6 ["self", "mast"] (sp_Line_doze K) := ⟨⟨_, _, ok_Line_doze F18 T G_check_mast M_Line_keep (by intro ds w Q E h; unfold sp_Line_doze at h; repeat' (first | (obtain ⟨rfl, h⟩ := h; rfl) | obtain ⟨_, h⟩ := h)) (red_Line_doze), He.meth_ok (c.fact 104 (f := .meth "Line" "doze") rfl), FunD.bindsN F18 fun _ _ _ _ _ _ us hl => match us, hl with | [_, _], _ => rfl⟩, He.cls_ok (c.fact 113 (f := .cls "Line") rfl)⟩
  exact M_Line_doze
theorem f_M_Line_wake : OwnM P w K mg base (He.ga K "Line") "wake" 6 ["self", "mast"] (sp_Line_wake K) := by
  obtain ⟨fd19, F19⟩ := c.def_ 19 (d := d19) rfl
  have T := f_T X G c hex
  have G_check_mast := f_G_check_mast X G c hex base (P := P) (w := w)
  have M_Line_keep := f_M_Line_keep X G c hex base (P := P) (w := w)
  have M_Line_wake : OwnM P w K mg base (He.ga K "Line") "wake" 6 ["self", "mast"] (sp_Line_wake K) := ⟨⟨_, _, ok_Line_wake F19 T G_check_mast M_Line_keep (by intro ds w Q E h; unfold sp_Line_wake at h; repeat' (first | (obtain ⟨rfl, h⟩ := h; rfl) | obtain ⟨_, h⟩ := h)) (red_Line_wake), He.meth_ok (c.fact 105 (f := .meth "Line" "wake") rfl), FunD.bindsN F19 fun _ _ _ _ _ _ us hl => match us, hl with | [_, _], _ => rfl⟩, He.cls_ok (c.fact 113 (f := .cls "Line") rfl)⟩
  exact M_Line_wake
theorem f_M_Line_fog : OwnM P w K mg base (He.ga K "Line") "fog" 6 ["self", "mast"] (sp_Line_fog K) := by
  obtain ⟨fd20, F20⟩ := c.def_ 20 (d := d20) rfl
  have T := f_T X G c hex
  have G_check_mast := f_G_check_mast X G c hex base (P := P) (w := w)
  have M_Line_keep := f_M_Line_keep X G c hex base (P := P) (w := w)
  have M_Line_fog : OwnM P w K mg base (He.ga K "Line") "fog" 6 ["self", "mast"] (sp_Line_fog K) := ⟨⟨_, _, ok_Line_fog F20 T G_check_mast M_Line_keep (by intro ds w Q E h; unfold sp_Line_fog at h; repeat' (first | (obtain ⟨rfl, h⟩ := h; rfl) | obtain ⟨_, h⟩ := h)) (red_Line_fog), He.meth_ok (c.fact 106 (f := .meth "Line" "fog") rfl), FunD.bindsN F20 fun _ _ _ _ _ _ us hl => match us, hl with | [_, _], _ => rfl⟩, He.cls_ok (c.fact 113 (f := .cls "Line") rfl)⟩
  exact M_Line_fog
theorem f_M_Line_lift : OwnM P w K mg base (He.ga K "Line") "lift" 6 ["self", "mast"] (sp_Line_lift K) := by
  obtain ⟨fd21, F21⟩ := c.def_ 21 (d := d21) rfl
  have T := f_T X G c hex
  have G_check_mast := f_G_check_mast X G c hex base (P := P) (w := w)
  have M_Line_keep := f_M_Line_keep X G c hex base (P := P) (w := w)
  have M_Line_lift : OwnM P w K mg base (He.ga K "Line") "lift" 6 ["self", "mast"] (sp_Line_lift K) := ⟨⟨_, _, ok_Line_lift F21 T G_check_mast M_Line_keep (by intro ds w Q E h; unfold sp_Line_lift at h; repeat' (first | (obtain ⟨rfl, h⟩ := h; rfl) | obtain ⟨_, h⟩ := h)) (red_Line_lift), He.meth_ok (c.fact 107 (f := .meth "Line" "lift") rfl), FunD.bindsN F21 fun _ _ _ _ _ _ us hl => match us, hl with | [_, _], _ => rfl⟩, He.cls_ok (c.fact 113 (f := .cls "Line") rfl)⟩
  exact M_Line_lift
theorem f_G__law_do : Own P w K mg base "_law_do" 7 ["_law_line", "_law_deed"] (sp__law_do K) := by
  obtain ⟨fd8, F8⟩ := c.def_ 8 (d := d8) rfl
  have T := f_T X G c hex
  have M_Line_doze := f_M_Line_doze X G c hex base (P := P) (w := w)
  have M_Line_wake := f_M_Line_wake X G c hex base (P := P) (w := w)
  have M_Line_fog := f_M_Line_fog X G c hex base (P := P) (w := w)
  have M_Line_lift := f_M_Line_lift X G c hex base (P := P) (w := w)
  have G__law_do : Own P w K mg base "_law_do" 7 ["_law_line", "_law_deed"] (sp__law_do K) := ⟨_, _, ok__law_do F8 T M_Line_doze M_Line_wake M_Line_fog M_Line_lift (by intro ds w Q E h; unfold sp__law_do at h; repeat' (first | (obtain ⟨rfl, h⟩ := h; rfl) | obtain ⟨_, h⟩ := h)) (red__law_do), He.glo_ok X G (c.fact 94 (f := .glo "_law_do") rfl), F8.kp, FunD.bindsN F8 fun _ _ _ _ _ _ us hl => match us, hl with | [_, _], _ => rfl⟩
  exact G__law_do
theorem f_G__law_tried : Own P w K mg base "_law_tried" 8 ["_law_line", "_law_deed"] (sp__law_tried K) := by
  obtain ⟨fd9, F9⟩ := c.def_ 9 (d := d9) rfl
  have T := f_T X G c hex
  have hX := f_hX X G c hex
  have K__law_kind := f_K__law_kind X G c hex base (P := P) (w := w)
  have G__law_do := f_G__law_do X G c hex base (P := P) (w := w)
  have G__law_tried : Own P w K mg base "_law_tried" 8 ["_law_line", "_law_deed"] (sp__law_tried K) := ⟨_, _, ok__law_tried F9 T G__law_do K__law_kind (by intro ds w Q E h; unfold sp__law_tried at h; repeat' (first | (obtain ⟨rfl, h⟩ := h; rfl) | obtain ⟨_, h⟩ := h)) (red__law_tried hX), He.glo_ok X G (c.fact 95 (f := .glo "_law_tried") rfl), F9.kp, FunD.bindsN F9 fun _ _ _ _ _ _ us hl => match us, hl with | [_, _], _ => rfl⟩
  exact G__law_tried
end Facts
theorem facts {P : Program} {w : World} {K : PySem.W.Frag} {h : Heap} {mg : Str → Option Value} {f : Addr} (X : K.In h) (G : h.Ns mainGlobals mg) (hfa : mg ("law" : Str) = some (.ref f)) (c : He.SaysD fa fn K) (hex : (ex.all fun e => e.ok K) = true) :
    ∃ fd : FuncData, (∀ (s : Shared) (v : Value), BindsTo s fd ⟨[v], []⟩ [("_law_script", v)]) ∧ ∀ base : Heap, K.In base → base.Ns mainGlobals mg → FnOk P w K mg base (L2N.CX P w) 9 f fd ["_law_script"] (lift K sp_law) := by
  obtain ⟨fd10, F10⟩ := c.def_ 10 (d := d10) rfl
  have e := hfa.symm.trans (He.glo_ok X G (c.fact 96 (f := .glo "law") rfl))
  cases e
  have b := FunD.bindsA (ps := ["_law_script"]) F10 fun _ _ _ _ _ _ us hl => match us, hl with | [_], _ => rfl
  refine ⟨fd10, fun s v => b s [v] rfl, fun base _ _ => ?_⟩
  have T := f_T X G c hex
  have G__law_cell := f_G__law_cell X G c hex base (P := P) (w := w)
  have G__law_row := f_G__law_row X G c hex base (P := P) (w := w)
  have G__law_sky_deed := f_G__law_sky_deed X G c hex base (P := P) (w := w)
  have M_Line_asleep := f_M_Line_asleep X G c hex base (P := P) (w := w)
  have M_Line_fogs := f_M_Line_fogs X G c hex base (P := P) (w := w)
  have C_Line := f_C_Line X G c hex base (P := P) (w := w)
  have A_like := f_A_like X G c hex base (P := P) (w := w)
  have G__law_like := A_like 3
  have G__law_tried := f_G__law_tried X G c hex base (P := P) (w := w)
  exact ok_law F10 T G__law_cell C_Line G__law_row G__law_sky_deed G__law_tried G__law_like M_Line_fogs M_Line_asleep (by intro ds w Q E h; unfold sp_law at h; repeat' (first | (obtain ⟨rfl, h⟩ := h; rfl) | obtain ⟨_, h⟩ := h)) (red_law)
end TD
open PySem PySem.W PySem.Calls PyProof.Rows
theorem PySem.Challenge.cw_mastword_k25_sleep_and_fog_holds : PySem.Challenge.rw_mastword_k25_sleep_and_fog.Holds := by
  w_on; o_law
  refine HandSHeadRun.head_any (r := OpenLaw.row PySem.Challenge.rw_mastword_k25_sleep_and_fog) (q := view (OpenLaw.row PySem.Challenge.rw_mastword_k25_sleep_and_fog).prog [78]) (H := Hd.hk) (ob := Hd.ob) (M := 40000) (loose := Hd.loose) (d := HandSHeadRun.topDef (OpenLaw.row PySem.Challenge.rw_mastword_k25_sleep_and_fog).prog 78) (kwd := []) Hd.ob_eq
    (by kernel_rfl) (fun s => by kernel_rfl) Hd.run (by kernel_rfl) (by kernel_rfl) (by kernel_rfl) (by rfl) (by first | assumption | decide +kernel) (by decide +kernel) ⟨rfl, rfl, rfl, rfl, rfl, by decide +kernel⟩ ?hw ?hc
  case hw => w_witness2
  case hc =>
    refine TD.walk_td (l := PySem.Challenge.rw_mastword_k25_sleep_and_fog) (n := 63) (k := 9) (x := "_law_script") (sp := TD.sp_law) rfl (by decide) (by kernel_rfl) ⟨rfl, by decide, by decide⟩ (fun ns hl => ⟨ns, rfl, hl, fun _ => rfl⟩) ?F
    intro w mg fa h Y G hmg0
    obtain ⟨K, KX, c⟩ := Y
    have hmg : mg ("law" : PySem.Str) = some (.ref fa) := by
      have e : (HandSHeadRun.topDef (OpenLaw.row PySem.Challenge.rw_mastword_k25_sleep_and_fog).prog 78).name = ("law" : PySem.Str) := by kernel_rfl
      rw [← e]
      exact hmg0
    obtain ⟨fd, hb, hF⟩ := TD.facts (P := (PySem.Challenge.rw_mastword_k25_sleep_and_fog).prog) (w := w) KX G hmg c.1 c.2
    exact ⟨K, fd, KX, hb, hF⟩

